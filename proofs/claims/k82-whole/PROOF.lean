import PyProof.Rows.All
import Wide.All
import OpenK.AllK
import Wide.FinOn
import HandS.ForMost
import HandS.ForExc
import HandS.Defaults
import HandS.HeadHook1
import HandS.HeadHook2
import HandS.HeadHook3
import HandS.Property
import HandS.HeadHook4
import KE.KSuper
import KE.KIsAll
import KE.KTryMore
import KE.KStateDown
import HandS.Head0
import HandS.Head1
import HandS.Head2
import HandS.Walk
import HandS.Zip
import HandS.Conv
import HandS.NoneIn
import HandS.Flow
import HandS.IsInst
import HandS.Style
import KE.GoesMore
import KE.GoesNew
import PyProof.Draws
import HandS.Evl
import HandS.Wide
import HandS.TupAny
import HandS.FStr
import PyProof.Rows.SortWalk
import PyProof.TupleOfSeq
import HandS.ExcValue
import HandS.SetFor
import HandS.More
import HandS.Proxy
import HandS.OwnEq
import HandS.Nested
import HandS.CallSlots
import HandS.Star
import HandS.CallLocal
import KE.KCallOwn
import KE.KOpsOwn
import HandS.ExcOwn
import HandS.Finally
import PyProof.ReprRoads
import PyProof.Rows.NestShow
import HandS.Text
import KE.DataEq
import KE.KSuperObj
import HandS.ClsMeth
import HandS.HotCalls
import HandS.ExcIs
import PyProof.RulesMatch
import HandS.MethStar
import HandS.TryMany
import HandS.GenList
import HandS.GenYield
import HandS.Iter
import KE.GoesZip
import KE.GoesEnum
import HandS.TryOnly
import HandS.MakeKwOnly
import HandS.RaiseOp
import HandS.Dict
import HandS.Lambda
import HandS.Slots
import HandS.EndTab
import HandS.HeadWalk
import PySem.Challenge.RW_twobricks_k82_whole_steps_see_and_cannot
set_option Elab.async false
set_option linter.all false
set_option maxRecDepth 100000
set_option maxHeartbeats 0
/-! where each def stands, its names, what the top has left -/
namespace TB
open PySem PySem.Spec PyProof.Rows L2
def top (i : Nat) : Stmt := PySem.Challenge.pw_twobricks_k82_whole_steps_see_and_cannot.main.body.getD i (.Pass ⟨0, 0, 0, 0⟩)
def fdA (K : PySem.W.Frag) (f : Addr) : FuncData := match K.lookup f with
  | some ⟨_, _, .func fd, _⟩ => fd
  | _ => default

abbrev s_name_of : Stmt := top 29
abbrev s_first_name : Stmt := top 28
abbrev s_is_integer : Stmt := top 31
abbrev s_sides_error : Stmt := top 32
abbrev s_kinds_error : Stmt := top 33
abbrev s_pair_error : Stmt := top 34
abbrev s_box_error : Stmt := top 35
abbrev s_common : Stmt := top 38
abbrev s_inverse : Stmt := top 40
abbrev s_least_times : Stmt := top 41
abbrev s_rests_papers : Stmt := top 50
abbrev s_bar_along : Stmt := top 52
abbrev s_crossing : Stmt := top 53
abbrev s_paper_papers : Stmt := top 54
abbrev s_is_filled : Stmt := top 56
abbrev s_sides_text : Stmt := top 62
abbrev s_kinds_text : Stmt := top 63
abbrev s_swapped : Stmt := top 72
abbrev s_is_order : Stmt := top 73
abbrev s_turned : Stmt := top 74
abbrev s_is_edit : Stmt := top 79
abbrev s_fits : Stmt := top 99
abbrev s_law_deck : Stmt := top 103
abbrev s_law_draw : Stmt := top 104
abbrev s_law_one : Stmt := top 105
abbrev s_law_mixed : Stmt := top 106
abbrev s_law_divisor : Stmt := top 107
abbrev s_law_whole : Stmt := top 108
abbrev s_law_sides : Stmt := top 109
abbrev s_law_pair : Stmt := top 110
abbrev s_law_lcm : Stmt := top 111
abbrev s_law_cut_box : Stmt := top 112
abbrev s_law_plain_box : Stmt := top 113
abbrev s_law_is_sum : Stmt := top 114
abbrev s_law_rests : Stmt := top 115
abbrev s_law_is_filled : Stmt := top 116
abbrev s_law_with : Stmt := top 117
abbrev s_law_is_part : Stmt := top 118
abbrev s_law_is_cut : Stmt := top 119
abbrev s_law_paper_holds : Stmt := top 120
abbrev s_law_page_after : Stmt := top 121
abbrev s_law_turned_page : Stmt := top 122
abbrev s_law_do : Stmt := top 124
abbrev s_law_done : Stmt := top 125
abbrev s_law_shows : Stmt := top 126
abbrev s_law_sides_text : Stmt := top 127
abbrev s_law_kinds_text : Stmt := top 128
abbrev s_law_says : Stmt := top 129
abbrev s_law_is_full : Stmt := top 130
abbrev s_law_due_shows : Stmt := top 131
abbrev s_law_start : Stmt := top 132
abbrev s_law_is_busy : Stmt := top 133
abbrev s_law_copy_right : Stmt := top 134
abbrev s_law_step : Stmt := top 135
abbrev s_law_tried : Stmt := top 136
abbrev s_law : Stmt := top 137
abbrev s_Y_init : Stmt := inClass (top 80) 1
abbrev s_Y_stand : Stmt := inClass (top 80) 2
abbrev s_Y_pair : Stmt := inClass (top 80) 3
abbrev s_Y_box : Stmt := inClass (top 80) 4
abbrev s_Y_version : Stmt := inClass (top 80) 5
abbrev s_Y_news : Stmt := inClass (top 80) 6
abbrev s_Y_paper : Stmt := inClass (top 80) 7
abbrev s_Y_judge : Stmt := inClass (top 80) 8
abbrev s_Y_require_free : Stmt := inClass (top 80) 9
abbrev s_Y_tell : Stmt := inClass (top 80) 10
abbrev s_Y_do : Stmt := inClass (top 80) 11
abbrev s_Y_edit : Stmt := inClass (top 80) 12
abbrev s_Y_side : Stmt := inClass (top 80) 13
abbrev s_Y_brick : Stmt := inClass (top 80) 14
abbrev s_Y_swap : Stmt := inClass (top 80) 15
abbrev s_Y_turn : Stmt := inClass (top 80) 16
abbrev s_Y_undo : Stmt := inClass (top 80) 18
abbrev s_Y_attempt : Stmt := inClass (top 80) 19
abbrev s_Y_do_all : Stmt := inClass (top 80) 20
abbrev s_Y_state_at : Stmt := inClass (top 80) 21
abbrev s_Y_each_version : Stmt := inClass (top 80) 22
abbrev s_Y_fresh : Stmt := inClass (top 80) 23
abbrev s_Y_copy : Stmt := inClass (top 80) 24
abbrev s_Y_setitem : Stmt := inClass (top 80) 26
abbrev s_Y_iadd : Stmt := inClass (top 80) 27
abbrev s_Y_len : Stmt := inClass (top 80) 28
abbrev s_Y_bool : Stmt := inClass (top 80) 29
abbrev s_Y_str : Stmt := inClass (top 80) 31
abbrev s_Y_eq : Stmt := inClass (top 80) 32
abbrev s_F_init : Stmt := inClass (top 81) 1
abbrev s_F_fresh : Stmt := inClass (top 81) 4
abbrev s_F_judge : Stmt := inClass (top 81) 5
abbrev s_S_init : Stmt := inClass (top 101) 0
abbrev s_S_call : Stmt := inClass (top 101) 2
abbrev s_S_execute : Stmt := inClass (top 101) 3
abbrev s_S_answer : Stmt := inClass (top 101) 4
abbrev s_S_told : Stmt := inClass (top 101) 5
/-- a def of no default -/
abbrev FnP (K : PySem.W.Frag) (x q : Str) (st : Stmt) (f : Addr) : Prop := FunD K x q (defArgs st) (defBody st) (defScope st) [] [] f (fdA K f)
/-- the getter of a property of Yard -/
def pgA (K : PySem.W.Frag) (m : Str) : Addr := match K.lookup (He.ma K (He.ga K "Yard") m) with
  | some ⟨_, _, .fields vs, _⟩ => (match vs.getD 0 .none with
    | .ref g => g
    | _ => 0)
  | _ => 0
/-- what the top has left -/
structure Txt (K : PySem.W.Frag) (mg : Str → Option Value) : Prop where
  n_len : mg "len" = none
  n_isinstance : mg "isinstance" = none
  n_int : mg "int" = none
  n_bool : mg "bool" = none
  n_str : mg "str" = none
  n_tuple : mg "tuple" = none
  n_list : mg "list" = none
  n_enumerate : mg "enumerate" = none
  n_range : mg "range" = none
  n_zip : mg "zip" = none
  n_all : mg "all" = none
  n_abs : mg "abs" = none
  n_repr : mg "repr" = none
  n_sorted : mg "sorted" = none
  n_set : mg "set" = none
  n_super : mg "super" = none
  n_min : mg "min" = none
  n_KeyError : mg "KeyError" = none
  c_MAX_DIMS : ∃ t, mg "MAX_DIMS" = some (.int 4 t)
  c_MAX_SIDE : ∃ t, mg "MAX_SIDE" = some (.int 1000000000000 t)
  c_MAX_KINDS : ∃ t, mg "MAX_KINDS" = some (.int 4 t)
  c_HISTORY : ∃ t, mg "HISTORY" = some (.int 30 t)
  c_BATCH : ∃ t, mg "BATCH" = some (.int 20 t)
  c_CUT : ∃ t, mg "CUT" = some (.str "cut" t)
  c_SIDES : ∃ t, mg "SIDES" = some (.str "sides" t)
  c_STEP : ∃ t, mg "STEP" = some (.str "step" t)
  c_GAP : ∃ t, mg "GAP" = some (.str "gap" t)
  c_FILLED : ∃ t, mg "FILLED" = some (.str "filled" t)
  c_BARRED : ∃ t, mg "BARRED" = some (.str "barred" t)
  c_SAME : ∃ t, mg "SAME" = some (.str "same" t)
  c_WHAT : ∃ t, mg "WHAT" = some (.str "what" t)
  g_name_of : mg "name_of" = some (.ref (He.ga K "name_of"))
  f_name_of : FnP K "name_of" "name_of" s_name_of (He.ga K "name_of")
  g_first_name : mg "first_name" = some (.ref (He.ga K "first_name"))
  f_first_name : FnP K "first_name" "first_name" s_first_name (He.ga K "first_name")
  g_is_integer : mg "is_integer" = some (.ref (He.ga K "is_integer"))
  f_is_integer : FnP K "is_integer" "is_integer" s_is_integer (He.ga K "is_integer")
  g_sides_error : mg "sides_error" = some (.ref (He.ga K "sides_error"))
  f_sides_error : FnP K "sides_error" "sides_error" s_sides_error (He.ga K "sides_error")
  g_kinds_error : mg "kinds_error" = some (.ref (He.ga K "kinds_error"))
  f_kinds_error : FnP K "kinds_error" "kinds_error" s_kinds_error (He.ga K "kinds_error")
  g_pair_error : mg "pair_error" = some (.ref (He.ga K "pair_error"))
  f_pair_error : FnP K "pair_error" "pair_error" s_pair_error (He.ga K "pair_error")
  g_box_error : mg "box_error" = some (.ref (He.ga K "box_error"))
  f_box_error : FnP K "box_error" "box_error" s_box_error (He.ga K "box_error")
  g_common : mg "common" = some (.ref (He.ga K "common"))
  f_common : FnP K "common" "common" s_common (He.ga K "common")
  g_inverse : mg "inverse" = some (.ref (He.ga K "inverse"))
  f_inverse : FnP K "inverse" "inverse" s_inverse (He.ga K "inverse")
  g_least_times : mg "least_times" = some (.ref (He.ga K "least_times"))
  f_least_times : FnP K "least_times" "least_times" s_least_times (He.ga K "least_times")
  g_rests_papers : mg "rests_papers" = some (.ref (He.ga K "rests_papers"))
  f_rests_papers : FnP K "rests" "rests" s_rests_papers (He.ga K "rests_papers")
  g_bar_along : mg "bar_along" = some (.ref (He.ga K "bar_along"))
  f_bar_along : FnP K "bar_along" "bar_along" s_bar_along (He.ga K "bar_along")
  g_crossing : mg "crossing" = some (.ref (He.ga K "crossing"))
  f_crossing : FnP K "crossing" "crossing" s_crossing (He.ga K "crossing")
  g_paper_papers : mg "paper_papers" = some (.ref (He.ga K "paper_papers"))
  f_paper_papers : FnP K "paper" "paper" s_paper_papers (He.ga K "paper_papers")
  g_is_filled : mg "is_filled" = some (.ref (He.ga K "is_filled"))
  f_is_filled : FnP K "is_filled" "is_filled" s_is_filled (He.ga K "is_filled")
  g_sides_text : mg "sides_text" = some (.ref (He.ga K "sides_text"))
  f_sides_text : FnP K "sides_text" "sides_text" s_sides_text (He.ga K "sides_text")
  g_kinds_text : mg "kinds_text" = some (.ref (He.ga K "kinds_text"))
  f_kinds_text : FnP K "kinds_text" "kinds_text" s_kinds_text (He.ga K "kinds_text")
  g_swapped : mg "swapped" = some (.ref (He.ga K "swapped"))
  f_swapped : FnP K "swapped" "swapped" s_swapped (He.ga K "swapped")
  g_is_order : mg "is_order" = some (.ref (He.ga K "is_order"))
  f_is_order : FnP K "is_order" "is_order" s_is_order (He.ga K "is_order")
  g_turned : mg "turned" = some (.ref (He.ga K "turned"))
  f_turned : FnP K "turned" "turned" s_turned (He.ga K "turned")
  g_is_edit : mg "is_edit" = some (.ref (He.ga K "is_edit"))
  f_is_edit : FnP K "is_edit" "is_edit" s_is_edit (He.ga K "is_edit")
  g_fits : mg "fits" = some (.ref (He.ga K "fits"))
  f_fits : FnP K "fits" "fits" s_fits (He.ga K "fits")
  g_law_deck : mg "_law_deck" = some (.ref (He.ga K "_law_deck"))
  f_law_deck : FnP K "_law_deck" "_law_deck" s_law_deck (He.ga K "_law_deck")
  g_law_draw : mg "_law_draw" = some (.ref (He.ga K "_law_draw"))
  f_law_draw : FnP K "_law_draw" "_law_draw" s_law_draw (He.ga K "_law_draw")
  g_law_one : mg "_law_one" = some (.ref (He.ga K "_law_one"))
  f_law_one : FnP K "_law_one" "_law_one" s_law_one (He.ga K "_law_one")
  g_law_mixed : mg "_law_mixed" = some (.ref (He.ga K "_law_mixed"))
  f_law_mixed : FnP K "_law_mixed" "_law_mixed" s_law_mixed (He.ga K "_law_mixed")
  g_law_divisor : mg "_law_divisor" = some (.ref (He.ga K "_law_divisor"))
  f_law_divisor : FnP K "_law_divisor" "_law_divisor" s_law_divisor (He.ga K "_law_divisor")
  g_law_whole : mg "_law_whole" = some (.ref (He.ga K "_law_whole"))
  f_law_whole : FnP K "_law_whole" "_law_whole" s_law_whole (He.ga K "_law_whole")
  g_law_sides : mg "_law_sides" = some (.ref (He.ga K "_law_sides"))
  f_law_sides : FnP K "_law_sides" "_law_sides" s_law_sides (He.ga K "_law_sides")
  g_law_pair : mg "_law_pair" = some (.ref (He.ga K "_law_pair"))
  f_law_pair : FnP K "_law_pair" "_law_pair" s_law_pair (He.ga K "_law_pair")
  g_law_lcm : mg "_law_lcm" = some (.ref (He.ga K "_law_lcm"))
  f_law_lcm : FnP K "_law_lcm" "_law_lcm" s_law_lcm (He.ga K "_law_lcm")
  g_law_cut_box : mg "_law_cut_box" = some (.ref (He.ga K "_law_cut_box"))
  f_law_cut_box : FnP K "_law_cut_box" "_law_cut_box" s_law_cut_box (He.ga K "_law_cut_box")
  g_law_plain_box : mg "_law_plain_box" = some (.ref (He.ga K "_law_plain_box"))
  f_law_plain_box : FnP K "_law_plain_box" "_law_plain_box" s_law_plain_box (He.ga K "_law_plain_box")
  g_law_is_sum : mg "_law_is_sum" = some (.ref (He.ga K "_law_is_sum"))
  f_law_is_sum : FnP K "_law_is_sum" "_law_is_sum" s_law_is_sum (He.ga K "_law_is_sum")
  g_law_rests : mg "_law_rests" = some (.ref (He.ga K "_law_rests"))
  f_law_rests : FnP K "_law_rests" "_law_rests" s_law_rests (He.ga K "_law_rests")
  g_law_is_filled : mg "_law_is_filled" = some (.ref (He.ga K "_law_is_filled"))
  f_law_is_filled : FnP K "_law_is_filled" "_law_is_filled" s_law_is_filled (He.ga K "_law_is_filled")
  g_law_with : mg "_law_with" = some (.ref (He.ga K "_law_with"))
  f_law_with : FnP K "_law_with" "_law_with" s_law_with (He.ga K "_law_with")
  g_law_is_part : mg "_law_is_part" = some (.ref (He.ga K "_law_is_part"))
  f_law_is_part : FnP K "_law_is_part" "_law_is_part" s_law_is_part (He.ga K "_law_is_part")
  g_law_is_cut : mg "_law_is_cut" = some (.ref (He.ga K "_law_is_cut"))
  f_law_is_cut : FnP K "_law_is_cut" "_law_is_cut" s_law_is_cut (He.ga K "_law_is_cut")
  g_law_paper_holds : mg "_law_paper_holds" = some (.ref (He.ga K "_law_paper_holds"))
  f_law_paper_holds : FnP K "_law_paper_holds" "_law_paper_holds" s_law_paper_holds (He.ga K "_law_paper_holds")
  g_law_page_after : mg "_law_page_after" = some (.ref (He.ga K "_law_page_after"))
  f_law_page_after : FnP K "_law_page_after" "_law_page_after" s_law_page_after (He.ga K "_law_page_after")
  g_law_turned_page : mg "_law_turned_page" = some (.ref (He.ga K "_law_turned_page"))
  f_law_turned_page : FnP K "_law_turned_page" "_law_turned_page" s_law_turned_page (He.ga K "_law_turned_page")
  g_law_do : mg "_law_do" = some (.ref (He.ga K "_law_do"))
  f_law_do : FnP K "_law_do" "_law_do" s_law_do (He.ga K "_law_do")
  g_law_done : mg "_law_done" = some (.ref (He.ga K "_law_done"))
  f_law_done : FnP K "_law_done" "_law_done" s_law_done (He.ga K "_law_done")
  g_law_shows : mg "_law_shows" = some (.ref (He.ga K "_law_shows"))
  f_law_shows : FnP K "_law_shows" "_law_shows" s_law_shows (He.ga K "_law_shows")
  g_law_sides_text : mg "_law_sides_text" = some (.ref (He.ga K "_law_sides_text"))
  f_law_sides_text : FnP K "_law_sides_text" "_law_sides_text" s_law_sides_text (He.ga K "_law_sides_text")
  g_law_kinds_text : mg "_law_kinds_text" = some (.ref (He.ga K "_law_kinds_text"))
  f_law_kinds_text : FnP K "_law_kinds_text" "_law_kinds_text" s_law_kinds_text (He.ga K "_law_kinds_text")
  g_law_says : mg "_law_says" = some (.ref (He.ga K "_law_says"))
  f_law_says : FnP K "_law_says" "_law_says" s_law_says (He.ga K "_law_says")
  g_law_is_full : mg "_law_is_full" = some (.ref (He.ga K "_law_is_full"))
  f_law_is_full : FnP K "_law_is_full" "_law_is_full" s_law_is_full (He.ga K "_law_is_full")
  g_law_due_shows : mg "_law_due_shows" = some (.ref (He.ga K "_law_due_shows"))
  f_law_due_shows : FnP K "_law_due_shows" "_law_due_shows" s_law_due_shows (He.ga K "_law_due_shows")
  g_law_start : mg "_law_start" = some (.ref (He.ga K "_law_start"))
  f_law_start : FnP K "_law_start" "_law_start" s_law_start (He.ga K "_law_start")
  g_law_is_busy : mg "_law_is_busy" = some (.ref (He.ga K "_law_is_busy"))
  f_law_is_busy : FnP K "_law_is_busy" "_law_is_busy" s_law_is_busy (He.ga K "_law_is_busy")
  g_law_copy_right : mg "_law_copy_right" = some (.ref (He.ga K "_law_copy_right"))
  f_law_copy_right : FnP K "_law_copy_right" "_law_copy_right" s_law_copy_right (He.ga K "_law_copy_right")
  g_law_step : mg "_law_step" = some (.ref (He.ga K "_law_step"))
  f_law_step : FnP K "_law_step" "_law_step" s_law_step (He.ga K "_law_step")
  g_law_tried : mg "_law_tried" = some (.ref (He.ga K "_law_tried"))
  f_law_tried : FnP K "_law_tried" "_law_tried" s_law_tried (He.ga K "_law_tried")
  g_law : mg "law" = some (.ref (He.ga K "law"))
  f_law : FnP K "law" "law" s_law (He.ga K "law")
  f_Y_init : FnP K "__init__" "Yard.__init__" s_Y_init (He.ma K (He.ga K "Yard") "__init__")
  f_Y_stand : FnP K "stand" "Yard.stand" s_Y_stand (He.ma K (He.ga K "Yard") "stand")
  f_Y_pair : FnP K "pair" "Yard.pair" s_Y_pair (pgA K "pair")
  f_Y_box : FnP K "box" "Yard.box" s_Y_box (pgA K "box")
  f_Y_version : FnP K "version" "Yard.version" s_Y_version (pgA K "version")
  f_Y_news : FnP K "news" "Yard.news" s_Y_news (pgA K "news")
  f_Y_paper : FnP K "paper" "Yard.paper" s_Y_paper (pgA K "paper")
  f_Y_judge : FnP K "judge" "Yard.judge" s_Y_judge (He.ma K (He.ga K "Yard") "judge")
  f_Y_require_free : FnP K "require_free" "Yard.require_free" s_Y_require_free (He.ma K (He.ga K "Yard") "require_free")
  f_Y_tell : FnP K "tell" "Yard.tell" s_Y_tell (He.ma K (He.ga K "Yard") "tell")
  f_Y_do : FnP K "do" "Yard.do" s_Y_do (He.ma K (He.ga K "Yard") "do")
  f_Y_edit : FnP K "edit" "Yard.edit" s_Y_edit (He.ma K (He.ga K "Yard") "edit")
  f_Y_side : FnP K "side" "Yard.side" s_Y_side (He.ma K (He.ga K "Yard") "side")
  f_Y_brick : FnP K "brick" "Yard.brick" s_Y_brick (He.ma K (He.ga K "Yard") "brick")
  f_Y_swap : FnP K "swap" "Yard.swap" s_Y_swap (He.ma K (He.ga K "Yard") "swap")
  f_Y_turn : FnP K "turn" "Yard.turn" s_Y_turn (He.ma K (He.ga K "Yard") "turn")
  f_Y_undo : FnP K "undo" "Yard.undo" s_Y_undo (He.ma K (He.ga K "Yard") "undo")
  f_Y_attempt : FunD K "attempt" "Yard.attempt" (defArgs s_Y_attempt) (defBody s_Y_attempt) (defScope s_Y_attempt) [] [("on_step", .non)] (He.ma K (He.ga K "Yard") "attempt") (fdA K (He.ma K (He.ga K "Yard") "attempt"))
  f_Y_do_all : FnP K "do_all" "Yard.do_all" s_Y_do_all (He.ma K (He.ga K "Yard") "do_all")
  f_Y_state_at : FunD K "state_at" "Yard.state_at" (defArgs s_Y_state_at) (defBody s_Y_state_at) (defScope s_Y_state_at) [] [("version", .non)] (He.ma K (He.ga K "Yard") "state_at") (fdA K (He.ma K (He.ga K "Yard") "state_at"))
  f_Y_each_version : FnP K "each_version" "Yard.each_version" s_Y_each_version (He.ma K (He.ga K "Yard") "each_version")
  f_Y_fresh : FnP K "fresh" "Yard.fresh" s_Y_fresh (He.ma K (He.ga K "Yard") "fresh")
  f_Y_copy : FnP K "copy" "Yard.copy" s_Y_copy (He.ma K (He.ga K "Yard") "copy")
  f_Y_setitem : FnP K "__setitem__" "Yard.__setitem__" s_Y_setitem (He.ma K (He.ga K "Yard") "__setitem__")
  f_Y_iadd : FnP K "__iadd__" "Yard.__iadd__" s_Y_iadd (He.ma K (He.ga K "Yard") "__iadd__")
  f_Y_len : FnP K "__len__" "Yard.__len__" s_Y_len (He.ma K (He.ga K "Yard") "__len__")
  f_Y_bool : FnP K "__bool__" "Yard.__bool__" s_Y_bool (He.ma K (He.ga K "Yard") "__bool__")
  f_Y_str : FnP K "__str__" "Yard.__str__" s_Y_str (He.ma K (He.ga K "Yard") "__str__")
  f_Y_eq : FnP K "__eq__" "Yard.__eq__" s_Y_eq (He.ma K (He.ga K "Yard") "__eq__")
  f_F_fresh : FnP K "fresh" "FullYard.fresh" s_F_fresh (He.ma K (He.ga K "FullYard") "fresh")
  f_F_judge : FnP K "judge" "FullYard.judge" s_F_judge (He.ma K (He.ga K "FullYard") "judge")
  f_S_init : FnP K "__init__" "Shell.__init__" s_S_init (He.ma K (He.ga K "Shell") "__init__")
  f_S_call : FnP K "__call__" "Shell.__call__" s_S_call (He.ma K (He.ga K "Shell") "__call__")
  f_S_execute : FnP K "execute" "Shell.execute" s_S_execute (He.ma K (He.ga K "Shell") "execute")
  f_S_answer : FnP K "answer" "Shell.answer" s_S_answer (He.ma K (He.ga K "Shell") "answer")
  f_S_told : FnP K "told" "Shell.told" s_S_told (He.ma K (He.ga K "Shell") "told")
section
variable {K : PySem.W.Frag} {mg : Str → Option Value}
theorem Txt.b_name_of (T : Txt K mg) : Binds K (fdA K (He.ga K "name_of")) ["error"] [] := T.f_name_of.bindsN fun _ _ _ _ _ _ us hl => match us, hl with | [_], _ => rfl
theorem Txt.b_first_name (T : Txt K mg) : Binds K (fdA K (He.ga K "first_name")) ["error"] [] := T.f_first_name.bindsN fun _ _ _ _ _ _ us hl => match us, hl with | [_], _ => rfl
theorem Txt.b_is_integer (T : Txt K mg) : Binds K (fdA K (He.ga K "is_integer")) ["value", "low", "high"] [] := T.f_is_integer.bindsN fun _ _ _ _ _ _ us hl => match us, hl with | [_, _, _], _ => rfl
theorem Txt.b_sides_error (T : Txt K mg) : Binds K (fdA K (He.ga K "sides_error")) ["value"] [] := T.f_sides_error.bindsN fun _ _ _ _ _ _ us hl => match us, hl with | [_], _ => rfl
theorem Txt.b_kinds_error (T : Txt K mg) : Binds K (fdA K (He.ga K "kinds_error")) ["value"] [] := T.f_kinds_error.bindsN fun _ _ _ _ _ _ us hl => match us, hl with | [_], _ => rfl
theorem Txt.b_pair_error (T : Txt K mg) : Binds K (fdA K (He.ga K "pair_error")) ["value"] [] := T.f_pair_error.bindsN fun _ _ _ _ _ _ us hl => match us, hl with | [_], _ => rfl
theorem Txt.b_box_error (T : Txt K mg) : Binds K (fdA K (He.ga K "box_error")) ["kinds", "value"] [] := T.f_box_error.bindsN fun _ _ _ _ _ _ us hl => match us, hl with | [_, _], _ => rfl
theorem Txt.b_common (T : Txt K mg) : Binds K (fdA K (He.ga K "common")) ["one", "other"] [] := T.f_common.bindsN fun _ _ _ _ _ _ us hl => match us, hl with | [_, _], _ => rfl
theorem Txt.b_inverse (T : Txt K mg) : Binds K (fdA K (He.ga K "inverse")) ["one", "other"] [] := T.f_inverse.bindsN fun _ _ _ _ _ _ us hl => match us, hl with | [_, _], _ => rfl
theorem Txt.b_least_times (T : Txt K mg) : Binds K (fdA K (He.ga K "least_times")) ["one", "other", "side"] [] := T.f_least_times.bindsN fun _ _ _ _ _ _ us hl => match us, hl with | [_, _, _], _ => rfl
theorem Txt.b_rests_papers (T : Txt K mg) : Binds K (fdA K (He.ga K "rests_papers")) ["brick", "box"] [] := T.f_rests_papers.bindsN fun _ _ _ _ _ _ us hl => match us, hl with | [_, _], _ => rfl
theorem Txt.b_bar_along (T : Txt K mg) : Binds K (fdA K (He.ga K "bar_along")) ["pair", "box", "axis"] [] := T.f_bar_along.bindsN fun _ _ _ _ _ _ us hl => match us, hl with | [_, _, _], _ => rfl
theorem Txt.b_crossing (T : Txt K mg) : Binds K (fdA K (He.ga K "crossing")) ["pair", "box"] [] := T.f_crossing.bindsN fun _ _ _ _ _ _ us hl => match us, hl with | [_, _], _ => rfl
theorem Txt.b_paper_papers (T : Txt K mg) : Binds K (fdA K (He.ga K "paper_papers")) ["pair", "box"] [] := T.f_paper_papers.bindsN fun _ _ _ _ _ _ us hl => match us, hl with | [_, _], _ => rfl
theorem Txt.b_is_filled (T : Txt K mg) : Binds K (fdA K (He.ga K "is_filled")) ["pair", "box"] [] := T.f_is_filled.bindsN fun _ _ _ _ _ _ us hl => match us, hl with | [_, _], _ => rfl
theorem Txt.b_sides_text (T : Txt K mg) : Binds K (fdA K (He.ga K "sides_text")) ["sides"] [] := T.f_sides_text.bindsN fun _ _ _ _ _ _ us hl => match us, hl with | [_], _ => rfl
theorem Txt.b_kinds_text (T : Txt K mg) : Binds K (fdA K (He.ga K "kinds_text")) ["kinds"] [] := T.f_kinds_text.bindsN fun _ _ _ _ _ _ us hl => match us, hl with | [_], _ => rfl
theorem Txt.b_swapped (T : Txt K mg) : Binds K (fdA K (He.ga K "swapped")) ["page"] [] := T.f_swapped.bindsN fun _ _ _ _ _ _ us hl => match us, hl with | [_], _ => rfl
theorem Txt.b_is_order (T : Txt K mg) : Binds K (fdA K (He.ga K "is_order")) ["box", "value"] [] := T.f_is_order.bindsN fun _ _ _ _ _ _ us hl => match us, hl with | [_, _], _ => rfl
theorem Txt.b_turned (T : Txt K mg) : Binds K (fdA K (He.ga K "turned")) ["page", "order"] [] := T.f_turned.bindsN fun _ _ _ _ _ _ us hl => match us, hl with | [_, _], _ => rfl
theorem Txt.b_is_edit (T : Txt K mg) : Binds K (fdA K (He.ga K "is_edit")) ["value"] [] := T.f_is_edit.bindsN fun _ _ _ _ _ _ us hl => match us, hl with | [_], _ => rfl
theorem Txt.b_fits (T : Txt K mg) : Binds K (fdA K (He.ga K "fits")) ["shape", "words"] [] := T.f_fits.bindsN fun _ _ _ _ _ _ us hl => match us, hl with | [_, _], _ => rfl
theorem Txt.b_law_deck (T : Txt K mg) : Binds K (fdA K (He.ga K "_law_deck")) ["_law_script"] [] := T.f_law_deck.bindsN fun _ _ _ _ _ _ us hl => match us, hl with | [_], _ => rfl
theorem Txt.b_law_draw (T : Txt K mg) : Binds K (fdA K (He.ga K "_law_draw")) ["_law_deck_here", "_law_many"] [] := T.f_law_draw.bindsN fun _ _ _ _ _ _ us hl => match us, hl with | [_, _], _ => rfl
theorem Txt.b_law_one (T : Txt K mg) : Binds K (fdA K (He.ga K "_law_one")) ["_law_deck_here", "_law_items"] [] := T.f_law_one.bindsN fun _ _ _ _ _ _ us hl => match us, hl with | [_, _], _ => rfl
theorem Txt.b_law_mixed (T : Txt K mg) : Binds K (fdA K (He.ga K "_law_mixed")) ["_law_deck_here", "_law_items"] [] := T.f_law_mixed.bindsN fun _ _ _ _ _ _ us hl => match us, hl with | [_, _], _ => rfl
theorem Txt.b_law_divisor (T : Txt K mg) : Binds K (fdA K (He.ga K "_law_divisor")) ["_law_one_here", "_law_other"] [] := T.f_law_divisor.bindsN fun _ _ _ _ _ _ us hl => match us, hl with | [_, _], _ => rfl
theorem Txt.b_law_whole (T : Txt K mg) : Binds K (fdA K (He.ga K "_law_whole")) ["_law_value", "_law_least", "_law_most"] [] := T.f_law_whole.bindsN fun _ _ _ _ _ _ us hl => match us, hl with | [_, _, _], _ => rfl
theorem Txt.b_law_sides (T : Txt K mg) : Binds K (fdA K (He.ga K "_law_sides")) ["_law_deck_here", "_law_axes", "_law_most"] [] := T.f_law_sides.bindsN fun _ _ _ _ _ _ us hl => match us, hl with | [_, _, _], _ => rfl
theorem Txt.b_law_pair (T : Txt K mg) : Binds K (fdA K (He.ga K "_law_pair")) ["_law_deck_here", "_law_axes", "_law_most"] [] := T.f_law_pair.bindsN fun _ _ _ _ _ _ us hl => match us, hl with | [_, _, _], _ => rfl
theorem Txt.b_law_lcm (T : Txt K mg) : Binds K (fdA K (He.ga K "_law_lcm")) ["_law_one_here", "_law_other"] [] := T.f_law_lcm.bindsN fun _ _ _ _ _ _ us hl => match us, hl with | [_, _], _ => rfl
theorem Txt.b_law_cut_box (T : Txt K mg) : Binds K (fdA K (He.ga K "_law_cut_box")) ["_law_deck_here", "_law_pair_here", "_law_many"] [] := T.f_law_cut_box.bindsN fun _ _ _ _ _ _ us hl => match us, hl with | [_, _, _], _ => rfl
theorem Txt.b_law_plain_box (T : Txt K mg) : Binds K (fdA K (He.ga K "_law_plain_box")) ["_law_deck_here", "_law_pair_here", "_law_many"] [] := T.f_law_plain_box.bindsN fun _ _ _ _ _ _ us hl => match us, hl with | [_, _, _], _ => rfl
theorem Txt.b_law_is_sum (T : Txt K mg) : Binds K (fdA K (He.ga K "_law_is_sum")) ["_law_side", "_law_one_here", "_law_other"] [] := T.f_law_is_sum.bindsN fun _ _ _ _ _ _ us hl => match us, hl with | [_, _, _], _ => rfl
theorem Txt.b_law_rests (T : Txt K mg) : Binds K (fdA K (He.ga K "_law_rests")) ["_law_brick", "_law_box"] [] := T.f_law_rests.bindsN fun _ _ _ _ _ _ us hl => match us, hl with | [_, _], _ => rfl
theorem Txt.b_law_is_filled (T : Txt K mg) : Binds K (fdA K (He.ga K "_law_is_filled")) ["_law_pair_here", "_law_box"] [] := T.f_law_is_filled.bindsN fun _ _ _ _ _ _ us hl => match us, hl with | [_, _], _ => rfl
theorem Txt.b_law_with (T : Txt K mg) : Binds K (fdA K (He.ga K "_law_with")) ["_law_sides_here", "_law_axis", "_law_side"] [] := T.f_law_with.bindsN fun _ _ _ _ _ _ us hl => match us, hl with | [_, _, _], _ => rfl
theorem Txt.b_law_is_part (T : Txt K mg) : Binds K (fdA K (He.ga K "_law_is_part")) ["_law_brick", "_law_box", "_law_axis", "_law_side"] [] := T.f_law_is_part.bindsN fun _ _ _ _ _ _ us hl => match us, hl with | [_, _, _, _], _ => rfl
theorem Txt.b_law_is_cut (T : Txt K mg) : Binds K (fdA K (He.ga K "_law_is_cut")) ["_law_pair_here", "_law_box", "_law_value"] [] := T.f_law_is_cut.bindsN fun _ _ _ _ _ _ us hl => match us, hl with | [_, _, _], _ => rfl
theorem Txt.b_law_paper_holds (T : Txt K mg) : Binds K (fdA K (He.ga K "_law_paper_holds")) ["_law_pair_here", "_law_box", "_law_value"] [] := T.f_law_paper_holds.bindsN fun _ _ _ _ _ _ us hl => match us, hl with | [_, _, _], _ => rfl
theorem Txt.b_law_page_after (T : Txt K mg) : Binds K (fdA K (He.ga K "_law_page_after")) ["_law_page", "_law_edit"] [] := T.f_law_page_after.bindsN fun _ _ _ _ _ _ us hl => match us, hl with | [_, _], _ => rfl
theorem Txt.b_law_turned_page (T : Txt K mg) : Binds K (fdA K (He.ga K "_law_turned_page")) ["_law_page", "_law_order"] [] := T.f_law_turned_page.bindsN fun _ _ _ _ _ _ us hl => match us, hl with | [_, _], _ => rfl
theorem Txt.b_law_do (T : Txt K mg) : Binds K (fdA K (He.ga K "_law_do")) ["_law_yard", "_law_edit"] [] := T.f_law_do.bindsN fun _ _ _ _ _ _ us hl => match us, hl with | [_, _], _ => rfl
theorem Txt.b_law_done (T : Txt K mg) : Binds K (fdA K (He.ga K "_law_done")) ["_law_yard", "_law_edit"] [] := T.f_law_done.bindsN fun _ _ _ _ _ _ us hl => match us, hl with | [_, _], _ => rfl
theorem Txt.b_law_shows (T : Txt K mg) : Binds K (fdA K (He.ga K "_law_shows")) ["_law_yard"] [] := T.f_law_shows.bindsN fun _ _ _ _ _ _ us hl => match us, hl with | [_], _ => rfl
theorem Txt.b_law_sides_text (T : Txt K mg) : Binds K (fdA K (He.ga K "_law_sides_text")) ["_law_sides_here"] [] := T.f_law_sides_text.bindsN fun _ _ _ _ _ _ us hl => match us, hl with | [_], _ => rfl
theorem Txt.b_law_kinds_text (T : Txt K mg) : Binds K (fdA K (He.ga K "_law_kinds_text")) ["_law_kinds"] [] := T.f_law_kinds_text.bindsN fun _ _ _ _ _ _ us hl => match us, hl with | [_], _ => rfl
theorem Txt.b_law_says (T : Txt K mg) : Binds K (fdA K (He.ga K "_law_says")) ["_law_deck_here", "_law_pair_here"] [] := T.f_law_says.bindsN fun _ _ _ _ _ _ us hl => match us, hl with | [_, _], _ => rfl
theorem Txt.b_law_is_full (T : Txt K mg) : Binds K (fdA K (He.ga K "_law_is_full")) ["_law_page"] [] := T.f_law_is_full.bindsN fun _ _ _ _ _ _ us hl => match us, hl with | [_], _ => rfl
theorem Txt.b_law_due_shows (T : Txt K mg) : Binds K (fdA K (He.ga K "_law_due_shows")) ["_law_pages", "_law_news"] [] := T.f_law_due_shows.bindsN fun _ _ _ _ _ _ us hl => match us, hl with | [_, _], _ => rfl
theorem Txt.b_law_start (T : Txt K mg) : Binds K (fdA K (He.ga K "_law_start")) ["_law_deck_here"] [] := T.f_law_start.bindsN fun _ _ _ _ _ _ us hl => match us, hl with | [_], _ => rfl
theorem Txt.b_law_is_busy (T : Txt K mg) : Binds K (fdA K (He.ga K "_law_is_busy")) ["_law_yard", "_law_way"] [] := T.f_law_is_busy.bindsN fun _ _ _ _ _ _ us hl => match us, hl with | [_, _], _ => rfl
theorem Txt.b_law_copy_right (T : Txt K mg) : Binds K (fdA K (He.ga K "_law_copy_right")) ["_law_held"] [] := T.f_law_copy_right.bindsN fun _ _ _ _ _ _ us hl => match us, hl with | [_], _ => rfl
theorem Txt.b_law_step (T : Txt K mg) : Binds K (fdA K (He.ga K "_law_step")) ["_law_held", "_law_yard", "_law_seen", "_law_plan", "_law_last"] [] := T.f_law_step.bindsN fun _ _ _ _ _ _ us hl => match us, hl with | [_, _, _, _, _], _ => rfl
theorem Txt.b_law_tried (T : Txt K mg) : Binds K (fdA K (He.ga K "_law_tried")) ["_law_yard", "_law_items", "_law_step_here"] [] := T.f_law_tried.bindsN fun _ _ _ _ _ _ us hl => match us, hl with | [_, _, _], _ => rfl
theorem Txt.b_law (T : Txt K mg) : Binds K (fdA K (He.ga K "law")) ["_law_script"] [] := T.f_law.bindsN fun _ _ _ _ _ _ us hl => match us, hl with | [_], _ => rfl
theorem Txt.b_Y_init (T : Txt K mg) : Binds K (fdA K (He.ma K (He.ga K "Yard") "__init__")) ["self", "pair", "box"] [] := T.f_Y_init.bindsN fun _ _ _ _ _ _ us hl => match us, hl with | [_, _, _], _ => rfl
theorem Txt.b_Y_stand (T : Txt K mg) : Binds K (fdA K (He.ma K (He.ga K "Yard") "stand")) ["self", "pages"] [] := T.f_Y_stand.bindsN fun _ _ _ _ _ _ us hl => match us, hl with | [_, _], _ => rfl
theorem Txt.b_Y_pair (T : Txt K mg) : Binds K (fdA K (pgA K "pair")) ["self"] [] := T.f_Y_pair.bindsN fun _ _ _ _ _ _ us hl => match us, hl with | [_], _ => rfl
theorem Txt.b_Y_box (T : Txt K mg) : Binds K (fdA K (pgA K "box")) ["self"] [] := T.f_Y_box.bindsN fun _ _ _ _ _ _ us hl => match us, hl with | [_], _ => rfl
theorem Txt.b_Y_version (T : Txt K mg) : Binds K (fdA K (pgA K "version")) ["self"] [] := T.f_Y_version.bindsN fun _ _ _ _ _ _ us hl => match us, hl with | [_], _ => rfl
theorem Txt.b_Y_news (T : Txt K mg) : Binds K (fdA K (pgA K "news")) ["self"] [] := T.f_Y_news.bindsN fun _ _ _ _ _ _ us hl => match us, hl with | [_], _ => rfl
theorem Txt.b_Y_paper (T : Txt K mg) : Binds K (fdA K (pgA K "paper")) ["self"] [] := T.f_Y_paper.bindsN fun _ _ _ _ _ _ us hl => match us, hl with | [_], _ => rfl
theorem Txt.b_Y_judge (T : Txt K mg) : Binds K (fdA K (He.ma K (He.ga K "Yard") "judge")) ["self", "page"] [] := T.f_Y_judge.bindsN fun _ _ _ _ _ _ us hl => match us, hl with | [_, _], _ => rfl
theorem Txt.b_Y_require_free (T : Txt K mg) : Binds K (fdA K (He.ma K (He.ga K "Yard") "require_free")) ["self"] [] := T.f_Y_require_free.bindsN fun _ _ _ _ _ _ us hl => match us, hl with | [_], _ => rfl
theorem Txt.b_Y_tell (T : Txt K mg) : Binds K (fdA K (He.ma K (He.ga K "Yard") "tell")) ["self", "was_filled"] [] := T.f_Y_tell.bindsN fun _ _ _ _ _ _ us hl => match us, hl with | [_, _], _ => rfl
theorem Txt.b_Y_do (T : Txt K mg) : Binds K (fdA K (He.ma K (He.ga K "Yard") "do")) ["self", "name", "values"] [] := T.f_Y_do.bindsN fun _ _ _ _ _ _ us hl => match us, hl with | [_, _, _], _ => rfl
theorem Txt.b_Y_side (T : Txt K mg) : Binds K (fdA K (He.ma K (He.ga K "Yard") "side")) ["self", "axis", "number"] [] := T.f_Y_side.bindsN fun _ _ _ _ _ _ us hl => match us, hl with | [_, _, _], _ => rfl
theorem Txt.b_Y_brick (T : Txt K mg) : Binds K (fdA K (He.ma K (He.ga K "Yard") "brick")) ["self", "kind", "axis", "number"] [] := T.f_Y_brick.bindsN fun _ _ _ _ _ _ us hl => match us, hl with | [_, _, _, _], _ => rfl
theorem Txt.b_Y_swap (T : Txt K mg) : Binds K (fdA K (He.ma K (He.ga K "Yard") "swap")) ["self"] [] := T.f_Y_swap.bindsN fun _ _ _ _ _ _ us hl => match us, hl with | [_], _ => rfl
theorem Txt.b_Y_turn (T : Txt K mg) : Binds K (fdA K (He.ma K (He.ga K "Yard") "turn")) ["self", "order"] [] := T.f_Y_turn.bindsN fun _ _ _ _ _ _ us hl => match us, hl with | [_, _], _ => rfl
theorem Txt.b_Y_undo (T : Txt K mg) : Binds K (fdA K (He.ma K (He.ga K "Yard") "undo")) ["self"] [] := T.f_Y_undo.bindsN fun _ _ _ _ _ _ us hl => match us, hl with | [_], _ => rfl
theorem Txt.b_Y_do_all (T : Txt K mg) : Binds K (fdA K (He.ma K (He.ga K "Yard") "do_all")) ["self", "batch", "on_step"] [] := T.f_Y_do_all.bindsN fun _ _ _ _ _ _ us hl => match us, hl with | [_, _, _], _ => rfl
theorem Txt.b_Y_each_version (T : Txt K mg) : Binds K (fdA K (He.ma K (He.ga K "Yard") "each_version")) ["self"] [] := T.f_Y_each_version.bindsN fun _ _ _ _ _ _ us hl => match us, hl with | [_], _ => rfl
theorem Txt.b_Y_fresh (T : Txt K mg) : Binds K (fdA K (He.ma K (He.ga K "Yard") "fresh")) ["self"] [] := T.f_Y_fresh.bindsN fun _ _ _ _ _ _ us hl => match us, hl with | [_], _ => rfl
theorem Txt.b_Y_copy (T : Txt K mg) : Binds K (fdA K (He.ma K (He.ga K "Yard") "copy")) ["self"] [] := T.f_Y_copy.bindsN fun _ _ _ _ _ _ us hl => match us, hl with | [_], _ => rfl
theorem Txt.b_Y_setitem (T : Txt K mg) : Binds K (fdA K (He.ma K (He.ga K "Yard") "__setitem__")) ["self", "axis", "number"] [] := T.f_Y_setitem.bindsN fun _ _ _ _ _ _ us hl => match us, hl with | [_, _, _], _ => rfl
theorem Txt.b_Y_iadd (T : Txt K mg) : Binds K (fdA K (He.ma K (He.ga K "Yard") "__iadd__")) ["self", "number"] [] := T.f_Y_iadd.bindsN fun _ _ _ _ _ _ us hl => match us, hl with | [_, _], _ => rfl
theorem Txt.b_Y_len (T : Txt K mg) : Binds K (fdA K (He.ma K (He.ga K "Yard") "__len__")) ["self"] [] := T.f_Y_len.bindsN fun _ _ _ _ _ _ us hl => match us, hl with | [_], _ => rfl
theorem Txt.b_Y_bool (T : Txt K mg) : Binds K (fdA K (He.ma K (He.ga K "Yard") "__bool__")) ["self"] [] := T.f_Y_bool.bindsN fun _ _ _ _ _ _ us hl => match us, hl with | [_], _ => rfl
theorem Txt.b_Y_str (T : Txt K mg) : Binds K (fdA K (He.ma K (He.ga K "Yard") "__str__")) ["self"] [] := T.f_Y_str.bindsN fun _ _ _ _ _ _ us hl => match us, hl with | [_], _ => rfl
theorem Txt.b_Y_eq (T : Txt K mg) : Binds K (fdA K (He.ma K (He.ga K "Yard") "__eq__")) ["self", "other"] [] := T.f_Y_eq.bindsN fun _ _ _ _ _ _ us hl => match us, hl with | [_, _], _ => rfl
theorem Txt.b_F_fresh (T : Txt K mg) : Binds K (fdA K (He.ma K (He.ga K "FullYard") "fresh")) ["self"] [] := T.f_F_fresh.bindsN fun _ _ _ _ _ _ us hl => match us, hl with | [_], _ => rfl
theorem Txt.b_F_judge (T : Txt K mg) : Binds K (fdA K (He.ma K (He.ga K "FullYard") "judge")) ["self", "page"] [] := T.f_F_judge.bindsN fun _ _ _ _ _ _ us hl => match us, hl with | [_, _], _ => rfl
theorem Txt.b_S_init (T : Txt K mg) : Binds K (fdA K (He.ma K (He.ga K "Shell") "__init__")) ["self", "yard"] [] := T.f_S_init.bindsN fun _ _ _ _ _ _ us hl => match us, hl with | [_, _], _ => rfl
theorem Txt.b_S_call (T : Txt K mg) : Binds K (fdA K (He.ma K (He.ga K "Shell") "__call__")) ["self", "value"] [] := T.f_S_call.bindsN fun _ _ _ _ _ _ us hl => match us, hl with | [_, _], _ => rfl
theorem Txt.b_S_execute (T : Txt K mg) : Binds K (fdA K (He.ma K (He.ga K "Shell") "execute")) ["self", "value"] [] := T.f_S_execute.bindsN fun _ _ _ _ _ _ us hl => match us, hl with | [_, _], _ => rfl
theorem Txt.b_S_answer (T : Txt K mg) : Binds K (fdA K (He.ma K (He.ga K "Shell") "answer")) ["self", "line"] [] := T.f_S_answer.bindsN fun _ _ _ _ _ _ us hl => match us, hl with | [_, _], _ => rfl
theorem Txt.b_S_told (T : Txt K mg) : Binds K (fdA K (He.ma K (He.ga K "Shell") "told")) ["self", "word", "numbers"] [] := T.f_S_told.bindsN fun _ _ _ _ _ _ us hl => match us, hl with | [_, _, _], _ => rfl
end
end TB
/-! what the top leaves, looked at as Bools -/
namespace TB
open PySem PySem.Spec PyProof.Rows L2
/-- the two classes of yards -/
def kC (K : PySem.W.Frag) (fu : Bool) : Addr := if fu then He.ga K "FullYard" else He.ga K "Yard"
def kS (fu : Bool) : Str := if fu then "full" else "yard"
abbrev fiA (K : PySem.W.Frag) : Addr := He.ma K (He.ga K "FullYard") "__init__"
def bNo (K : PySem.W.Frag) (C : Addr) (m : Str) : Bool := He.eqO (PySem.W.findIn K (.ref C) m) (some none)
def bCls (K : PySem.W.Frag) (C : Addr) : Bool := PySem.W.plainGet K C Str.empty && (PySem.W.hasDictIn K C && (PySem.W.plainOver K C && He.eqO (PySem.W.findIn K (.ref C) "__setattr__") (some (some (.builtin "object.__setattr__")))))
def bMeth (K : PySem.W.Frag) (C : Addr) (m : Str) (f : Addr) : Bool := He.eqO (PySem.W.findIn K (.ref C) m) (some (some (.ref f))) && (PySem.W.isFn K (.ref f) && PySem.W.keepIn K (.ref f))
def bOwn (K : PySem.W.Frag) (C : Addr) (m : Str) (f : Addr) : Bool := He.eqO (PySem.W.findIn K (.ref C) m) (some (some (.ref f))) && PySem.W.isFn K (.ref f)
def bMk (K : PySem.W.Frag) (C f : Addr) : Bool := PySem.W.makesIn K C && (He.eqO (PySem.W.findIn K (.ref C) "__init__") (some (some (.ref f))) && (PySem.W.isFn K (.ref f) && PySem.W.keepIn K (.ref C)))
def bCallO (K : PySem.W.Frag) (C f : Addr) : Bool := He.eqO (PySem.W.findIn K (.ref C) "__call__") (some (some (.ref f))) && (PySem.W.isFn K (.ref f) && PySem.W.fnIn K f)
def bBMeth (K : PySem.W.Frag) (C : Addr) (m : Str) (f : Addr) : Bool := bMeth K C m f && (He.eqO (PySem.W.specialIn K (.ref f) "__get__") (some (some (.builtin "function.__get__"))) && (decide (PySem.W.takesIn K (.ref f) = some false) && (!PySem.W.copiedNames.contains m && PySem.W.fnIn K f)))
def bExcC (K : PySem.W.Frag) (C : Addr) : Bool := He.eqO (PySem.W.findIn K (.ref C) "__getattribute__") (some (some (.builtin "BaseException.__getattribute__"))) && (He.eqO (PySem.W.findIn K (.ref C) "__getattr__") (some none) && (decide (PySem.W.subIn K (.ref C) (.type "BaseException") = some true) && (PySem.W.hasDictIn K C &&
  (He.eqO (PySem.W.findIn K (.ref C) "__class__") (some (some (.builtin "object.__class__"))) && (He.eqO (PySem.W.specialIn K (.builtin "object.__class__") "__get__") (some (some (.builtin "getset_descriptor.__get__"))) && (decide (PySem.W.takesIn K (.builtin "object.__class__") = some true) && decide (PySem.W.mroIn K C (.type "object") = some true)))))))
def bProp (K : PySem.W.Frag) (C : Addr) (m : Str) (g : Addr) : Bool := match PySem.W.findIn K (.ref C) m with
  | some (some (.ref p)) => He.eqO (PySem.W.specialIn K (.ref p) "__get__") (some (some (.builtin "property.__get__"))) && (decide (PySem.W.takesIn K (.ref p) = some true) && (match PySem.W.recIn K p "property" with
    | some (v :: _) => decide (v = .ref g)
    | _ => false))
  | _ => false
def bCon (K : PySem.W.Frag) (C : Addr) (m : Str) (v : V) : Bool := match PySem.W.findIn K (.ref C) m with
  | some (some u) => He.relB v u && (He.eqO (PySem.W.specialIn K u "__get__") (some none) && !PySem.W.copiedNames.contains m)
  | _ => false
def bAt (K : PySem.W.Frag) (d : Addr) (m : Str) (v : V) : Bool := match PySem.W.nsIn K d m with
  | some (some u) => He.relB v u
  | _ => false
structure PD where
  at_ : PySem.W.Frag → Addr
  name : Str
  qual : Str
  params : Arguments
  body : List Stmt
  scope : Scope
  cl : List Str
abbrev FnX : Type := Option (Str × Str × Arguments × FuncBody × Scope × Addr × List Str × Addr)
def fnX (K : PySem.W.Frag) (a : Addr) : FnX := match K.lookup a with
  | some ⟨_, _, .func fd, _⟩ => some (fd.name, fd.qualname, fd.params, fd.body, fd.scope, fd.globals, fd.closure.map (·.1), fd.builtins)
  | _ => none
def PD.val (d : PD) : FnX := some (d.name, d.qual, d.params, .stmts d.body, d.scope, mainGlobals, d.cl, builtinsNs)
def bFun (K : PySem.W.Frag) (a : Addr) (q : Str) : Bool := match K.lookup a with
  | some ⟨_, _, .func fd, _⟩ => PySem.W.keepIn K (.ref a) && (PySem.W.codeIn K fd.code q && (He.dflB K fd.defaults [] && He.kwdB K fd.kwdefaults []))
  | _ => false
def bFI (K : PySem.W.Frag) (file : Str) : Bool := (match K.lookup (fiA K) with
  | some ⟨_, _, .func fd, _⟩ => (match fd.code, fd.closure, fd.defaults with
    | .ref cda, [(_, cc)], .none => PySem.W.codeIn K (.ref cda) "FullYard.__init__" && ((match K.lookup cc with
      | some ⟨_, _, .cell (some v), _⟩ => decide (v = .ref (He.ga K "FullYard"))
      | _ => false) && (match K.lookup cda with
      | some ⟨_, _, .fields vs, _⟩ => (match vs[2]? with
        | some (Value.str fl _) => file == fl
        | _ => false)
      | _ => false))
    | _, _, _ => false)
  | _ => false) && ((PySem.W.clsIn K (He.ga K "FullYard")).isSome && (decide (PySem.W.mroIn K (He.ga K "FullYard") (.ref (He.ga K "FullYard")) = some true) && (He.eqO (PySem.W.nsIn K cStatics "thirdparty.any") (some none) &&
    (He.eqO (PySem.W.ks_superIn K (He.ga K "FullYard") (He.ga K "FullYard") "__init__") (some (some (.ref (He.ma K (He.ga K "Yard") "__init__")))) && (decide (PySem.W.typeIn K (.ref (He.ma K (He.ga K "Yard") "__init__")) = some (.type "function")) && PySem.W.fnIn K (He.ma K (He.ga K "Yard") "__init__"))))))
def bKl (K : PySem.W.Frag) (fu : Bool) : Bool := bCls K (kC K fu) && (bNo K (kC K fu) "word" && (bNo K (kC K fu) "is_busy" && (bNo K (kC K fu) "pages" && (bNo K (kC K fu) "look" && (bCon K (kC K fu) "SORT" (.str (kS fu)) && (bMeth K (kC K fu) "stand" (He.ma K (He.ga K "Yard") "stand") && (bMeth K (kC K fu) "require_free" (He.ma K (He.ga K "Yard") "require_free") && (bMeth K (kC K fu) "tell" (He.ma K (He.ga K "Yard") "tell") && (bMeth K (kC K fu) "do" (He.ma K (He.ga K "Yard") "do") && (bMeth K (kC K fu) "edit" (He.ma K (He.ga K "Yard") "edit") && (bMeth K (kC K fu) "side" (He.ma K (He.ga K "Yard") "side") && (bMeth K (kC K fu) "brick" (He.ma K (He.ga K "Yard") "brick") && (bMeth K (kC K fu) "swap" (He.ma K (He.ga K "Yard") "swap") && (bMeth K (kC K fu) "turn" (He.ma K (He.ga K "Yard") "turn") && (bMeth K (kC K fu) "undo" (He.ma K (He.ga K "Yard") "undo") && (bMeth K (kC K fu) "attempt" (He.ma K (He.ga K "Yard") "attempt") && (bMeth K (kC K fu) "do_all" (He.ma K (He.ga K "Yard") "do_all") && (bMeth K (kC K fu) "state_at" (He.ma K (He.ga K "Yard") "state_at") && (bMeth K (kC K fu) "each_version" (He.ma K (He.ga K "Yard") "each_version") && (bMeth K (kC K fu) "copy" (He.ma K (He.ga K "Yard") "copy") && (bProp K (kC K fu) "pair" (pgA K "pair") && (bProp K (kC K fu) "box" (pgA K "box") && (bProp K (kC K fu) "version" (pgA K "version") && (bProp K (kC K fu) "news" (pgA K "news") && (bProp K (kC K fu) "paper" (pgA K "paper") && (bOwn K (kC K fu) "__setitem__" (He.ma K (He.ga K "Yard") "__setitem__") && (bOwn K (kC K fu) "__iadd__" (He.ma K (He.ga K "Yard") "__iadd__") && (bOwn K (kC K fu) "__len__" (He.ma K (He.ga K "Yard") "__len__") && (bOwn K (kC K fu) "__bool__" (He.ma K (He.ga K "Yard") "__bool__") && (bOwn K (kC K fu) "__str__" (He.ma K (He.ga K "Yard") "__str__") && (bOwn K (kC K fu) "__eq__" (He.ma K (He.ga K "Yard") "__eq__") && (PySem.W.noSeq K (kC K fu) && (PySem.W.selfFirst K (kC K fu) && (decide (PySem.W.findIn K (.ref (kC K fu)) "__class__" = some (some (.builtin "object.__class__"))) && (decide (PySem.W.mroIn K (kC K fu) (.type "object") = some true) && (bMeth K (kC K fu) "judge" (He.ma K (kC K fu) "judge") && (bMeth K (kC K fu) "fresh" (He.ma K (kC K fu) "fresh") && (bMk K (kC K fu) (He.ma K (kC K fu) "__init__")))))))))))))))))))))))))))))))))))))))
def bYrd (K : PySem.W.Frag) : Bool := bKl K false && (bKl K true && (decide (PySem.W.kitOne K (.ref (kC K false)) (.ref (He.ga K "Yard")) = some true) && (decide (PySem.W.kitOne K (.ref (kC K true)) (.ref (He.ga K "Yard")) = some true) && (decide (PySem.W.specialIn K (.builtin "object.__class__") "__get__" = some (some (.builtin "getset_descriptor.__get__"))) && (decide (PySem.W.takesIn K (.builtin "object.__class__") = some true) && (PySem.W.excIn K (He.ga K "Busy") [.type "ValueError", .type "Exception", .type "BaseException", .type "object"] "ValueError.__new__" && (PySem.W.keepIn K (.ref (He.ga K "Busy")) && (decide (PySem.W.subIn K (.ref (He.ga K "Busy")) (.type "BaseException") = some true) && (decide (PySem.W.typeIn K (.ref (He.ga K "Busy")) = some (.type "type")))))))))))
def xG : List Str := ["BrickError", "BadBatch", "BadBox", "BadKinds", "BadOrder", "BadPaper", "BadSide", "BadText", "Busy", "NoAxis", "NoKind", "NoNumber", "NoSeam", "NoVersion", "NotFilled", "NothingToUndo", "Rejected", "TooLarge", "TooManyEdits", "UnlikeAxes", "Unfit"]
def bExn (K : PySem.W.Frag) : Bool := bExcC K (He.ga K "Busy") && (decide (PySem.W.exmOne K (.ref (He.ga K "Busy")) (.ref (He.ga K "BrickError")) = some true) && (decide (PySem.W.kitOne K (.ref (He.ga K "Busy")) (.ref (He.ga K "BadBatch")) = some false) && (decide (PySem.W.exmOne K (.ref (He.ga K "Busy")) (.ref (He.ga K "BadBatch")) = some false) && (decide (PySem.W.kitOne K (.ref (He.ga K "Busy")) (.ref (He.ga K "BadBox")) = some false) && (decide (PySem.W.exmOne K (.ref (He.ga K "Busy")) (.ref (He.ga K "BadBox")) = some false) && (decide (PySem.W.kitOne K (.ref (He.ga K "Busy")) (.ref (He.ga K "BadKinds")) = some false) && (decide (PySem.W.exmOne K (.ref (He.ga K "Busy")) (.ref (He.ga K "BadKinds")) = some false) && (decide (PySem.W.kitOne K (.ref (He.ga K "Busy")) (.ref (He.ga K "BadOrder")) = some false) && (decide (PySem.W.exmOne K (.ref (He.ga K "Busy")) (.ref (He.ga K "BadOrder")) = some false) && (decide (PySem.W.kitOne K (.ref (He.ga K "Busy")) (.ref (He.ga K "BadPaper")) = some false) && (decide (PySem.W.exmOne K (.ref (He.ga K "Busy")) (.ref (He.ga K "BadPaper")) = some false) && (decide (PySem.W.kitOne K (.ref (He.ga K "Busy")) (.ref (He.ga K "BadSide")) = some false) && (decide (PySem.W.exmOne K (.ref (He.ga K "Busy")) (.ref (He.ga K "BadSide")) = some false) && (decide (PySem.W.kitOne K (.ref (He.ga K "Busy")) (.ref (He.ga K "BadText")) = some false) && (decide (PySem.W.exmOne K (.ref (He.ga K "Busy")) (.ref (He.ga K "BadText")) = some false) && (decide (PySem.W.kitOne K (.ref (He.ga K "Busy")) (.ref (He.ga K "Busy")) = some true) && (decide (PySem.W.exmOne K (.ref (He.ga K "Busy")) (.ref (He.ga K "Busy")) = some true) && (decide (PySem.W.kitOne K (.ref (He.ga K "Busy")) (.ref (He.ga K "NoAxis")) = some false) && (decide (PySem.W.exmOne K (.ref (He.ga K "Busy")) (.ref (He.ga K "NoAxis")) = some false) && (decide (PySem.W.kitOne K (.ref (He.ga K "Busy")) (.ref (He.ga K "NoKind")) = some false) && (decide (PySem.W.exmOne K (.ref (He.ga K "Busy")) (.ref (He.ga K "NoKind")) = some false) && (decide (PySem.W.kitOne K (.ref (He.ga K "Busy")) (.ref (He.ga K "NoNumber")) = some false) && (decide (PySem.W.exmOne K (.ref (He.ga K "Busy")) (.ref (He.ga K "NoNumber")) = some false) && (decide (PySem.W.kitOne K (.ref (He.ga K "Busy")) (.ref (He.ga K "NoSeam")) = some false) && (decide (PySem.W.exmOne K (.ref (He.ga K "Busy")) (.ref (He.ga K "NoSeam")) = some false) && (decide (PySem.W.kitOne K (.ref (He.ga K "Busy")) (.ref (He.ga K "NoVersion")) = some false) && (decide (PySem.W.exmOne K (.ref (He.ga K "Busy")) (.ref (He.ga K "NoVersion")) = some false) && (decide (PySem.W.kitOne K (.ref (He.ga K "Busy")) (.ref (He.ga K "NotFilled")) = some false) && (decide (PySem.W.exmOne K (.ref (He.ga K "Busy")) (.ref (He.ga K "NotFilled")) = some false) && (decide (PySem.W.kitOne K (.ref (He.ga K "Busy")) (.ref (He.ga K "NothingToUndo")) = some false) && (decide (PySem.W.exmOne K (.ref (He.ga K "Busy")) (.ref (He.ga K "NothingToUndo")) = some false) && (decide (PySem.W.kitOne K (.ref (He.ga K "Busy")) (.ref (He.ga K "Rejected")) = some false) && (decide (PySem.W.exmOne K (.ref (He.ga K "Busy")) (.ref (He.ga K "Rejected")) = some false) && (decide (PySem.W.kitOne K (.ref (He.ga K "Busy")) (.ref (He.ga K "TooLarge")) = some false) && (decide (PySem.W.exmOne K (.ref (He.ga K "Busy")) (.ref (He.ga K "TooLarge")) = some false) && (decide (PySem.W.kitOne K (.ref (He.ga K "Busy")) (.ref (He.ga K "TooManyEdits")) = some false) && (decide (PySem.W.exmOne K (.ref (He.ga K "Busy")) (.ref (He.ga K "TooManyEdits")) = some false) && (decide (PySem.W.kitOne K (.ref (He.ga K "Busy")) (.ref (He.ga K "UnlikeAxes")) = some false) && (decide (PySem.W.exmOne K (.ref (He.ga K "Busy")) (.ref (He.ga K "UnlikeAxes")) = some false) && (decide (PySem.W.kitOne K (.ref (He.ga K "Busy")) (.ref (He.ga K "Unfit")) = some false) && (decide (PySem.W.exmOne K (.ref (He.ga K "Busy")) (.ref (He.ga K "Unfit")) = some false))))))))))))))))))))))))))))))))))))))))))
def bShl (K : PySem.W.Frag) : Bool := bCls K (He.ga K "Shell") && (bNo K (He.ga K "Shell") "yard" && (bNo K (He.ga K "Shell") "lines" && (bMeth K (He.ga K "Shell") "execute" (He.ma K (He.ga K "Shell") "execute") && (bMeth K (He.ga K "Shell") "answer" (He.ma K (He.ga K "Shell") "answer") && (bMeth K (He.ga K "Shell") "told" (He.ma K (He.ga K "Shell") "told") && (bMk K (He.ga K "Shell") (He.ma K (He.ga K "Shell") "__init__") && (bCallO K (He.ga K "Shell") (He.ma K (He.ga K "Shell") "__call__"))))))))
def bTab (K : PySem.W.Frag) : Bool := bAt K (He.ga K "SIZES") "swap" (.int 0) && (bAt K (He.ga K "SIZES") "turn" (.int 1) && (bAt K (He.ga K "DEEDS") "swap" (.ref (He.ga K "swapped")) && (bAt K (He.ga K "DEEDS") "turn" (.ref (He.ga K "turned")) && (bAt K (He.ga K "SHAPES") "swap" (.str "") && (bAt K (He.ga K "SHAPES") "show" (.str ""))))))
def pr0 : PD := ⟨fun K => pgA K "pair", "pair", "Yard.pair", defArgs s_Y_pair, defBody s_Y_pair, defScope s_Y_pair, []⟩
def pr1 : PD := ⟨fun K => pgA K "box", "box", "Yard.box", defArgs s_Y_box, defBody s_Y_box, defScope s_Y_box, []⟩
def pr2 : PD := ⟨fun K => pgA K "version", "version", "Yard.version", defArgs s_Y_version, defBody s_Y_version, defScope s_Y_version, []⟩
def pr3 : PD := ⟨fun K => pgA K "news", "news", "Yard.news", defArgs s_Y_news, defBody s_Y_news, defScope s_Y_news, []⟩
def pr4 : PD := ⟨fun K => pgA K "paper", "paper", "Yard.paper", defArgs s_Y_paper, defBody s_Y_paper, defScope s_Y_paper, []⟩
def prI : PD := ⟨fun K => fiA K, "__init__", "FullYard.__init__", defArgs s_F_init, defBody s_F_init, defScope s_F_init, ["__class__"]⟩
def prL : List PD := [pr0, pr1, pr2, pr3, pr4, prI]
def bFuns (K : PySem.W.Frag) : List Bool := [bFun K (pr0.at_ K) pr0.qual, bFun K (pr1.at_ K) pr1.qual, bFun K (pr2.at_ K) pr2.qual, bFun K (pr3.at_ K) pr3.qual, bFun K (pr4.at_ K) pr4.qual]
def fn0 : He.DefD := ⟨("name_of", none), "name_of", "name_of", defArgs s_name_of, defBody s_name_of, defScope s_name_of, [], []⟩
def fn1 : He.DefD := ⟨("first_name", none), "first_name", "first_name", defArgs s_first_name, defBody s_first_name, defScope s_first_name, [], []⟩
def fn2 : He.DefD := ⟨("is_integer", none), "is_integer", "is_integer", defArgs s_is_integer, defBody s_is_integer, defScope s_is_integer, [], []⟩
def fn3 : He.DefD := ⟨("sides_error", none), "sides_error", "sides_error", defArgs s_sides_error, defBody s_sides_error, defScope s_sides_error, [], []⟩
def fn4 : He.DefD := ⟨("kinds_error", none), "kinds_error", "kinds_error", defArgs s_kinds_error, defBody s_kinds_error, defScope s_kinds_error, [], []⟩
def fn5 : He.DefD := ⟨("pair_error", none), "pair_error", "pair_error", defArgs s_pair_error, defBody s_pair_error, defScope s_pair_error, [], []⟩
def fn6 : He.DefD := ⟨("box_error", none), "box_error", "box_error", defArgs s_box_error, defBody s_box_error, defScope s_box_error, [], []⟩
def fn7 : He.DefD := ⟨("common", none), "common", "common", defArgs s_common, defBody s_common, defScope s_common, [], []⟩
def fn8 : He.DefD := ⟨("inverse", none), "inverse", "inverse", defArgs s_inverse, defBody s_inverse, defScope s_inverse, [], []⟩
def fn9 : He.DefD := ⟨("least_times", none), "least_times", "least_times", defArgs s_least_times, defBody s_least_times, defScope s_least_times, [], []⟩
def fn10 : He.DefD := ⟨("rests_papers", none), "rests", "rests", defArgs s_rests_papers, defBody s_rests_papers, defScope s_rests_papers, [], []⟩
def fn11 : He.DefD := ⟨("bar_along", none), "bar_along", "bar_along", defArgs s_bar_along, defBody s_bar_along, defScope s_bar_along, [], []⟩
def fn12 : He.DefD := ⟨("crossing", none), "crossing", "crossing", defArgs s_crossing, defBody s_crossing, defScope s_crossing, [], []⟩
def fn13 : He.DefD := ⟨("paper_papers", none), "paper", "paper", defArgs s_paper_papers, defBody s_paper_papers, defScope s_paper_papers, [], []⟩
def fn14 : He.DefD := ⟨("is_filled", none), "is_filled", "is_filled", defArgs s_is_filled, defBody s_is_filled, defScope s_is_filled, [], []⟩
def fn15 : He.DefD := ⟨("sides_text", none), "sides_text", "sides_text", defArgs s_sides_text, defBody s_sides_text, defScope s_sides_text, [], []⟩
def fn16 : He.DefD := ⟨("kinds_text", none), "kinds_text", "kinds_text", defArgs s_kinds_text, defBody s_kinds_text, defScope s_kinds_text, [], []⟩
def fn17 : He.DefD := ⟨("swapped", none), "swapped", "swapped", defArgs s_swapped, defBody s_swapped, defScope s_swapped, [], []⟩
def fn18 : He.DefD := ⟨("is_order", none), "is_order", "is_order", defArgs s_is_order, defBody s_is_order, defScope s_is_order, [], []⟩
def fn19 : He.DefD := ⟨("turned", none), "turned", "turned", defArgs s_turned, defBody s_turned, defScope s_turned, [], []⟩
def fn20 : He.DefD := ⟨("is_edit", none), "is_edit", "is_edit", defArgs s_is_edit, defBody s_is_edit, defScope s_is_edit, [], []⟩
def fn21 : He.DefD := ⟨("fits", none), "fits", "fits", defArgs s_fits, defBody s_fits, defScope s_fits, [], []⟩
def fn22 : He.DefD := ⟨("_law_deck", none), "_law_deck", "_law_deck", defArgs s_law_deck, defBody s_law_deck, defScope s_law_deck, [], []⟩
def fn23 : He.DefD := ⟨("_law_draw", none), "_law_draw", "_law_draw", defArgs s_law_draw, defBody s_law_draw, defScope s_law_draw, [], []⟩
def fn24 : He.DefD := ⟨("_law_one", none), "_law_one", "_law_one", defArgs s_law_one, defBody s_law_one, defScope s_law_one, [], []⟩
def fn25 : He.DefD := ⟨("_law_mixed", none), "_law_mixed", "_law_mixed", defArgs s_law_mixed, defBody s_law_mixed, defScope s_law_mixed, [], []⟩
def fn26 : He.DefD := ⟨("_law_divisor", none), "_law_divisor", "_law_divisor", defArgs s_law_divisor, defBody s_law_divisor, defScope s_law_divisor, [], []⟩
def fn27 : He.DefD := ⟨("_law_whole", none), "_law_whole", "_law_whole", defArgs s_law_whole, defBody s_law_whole, defScope s_law_whole, [], []⟩
def fn28 : He.DefD := ⟨("_law_sides", none), "_law_sides", "_law_sides", defArgs s_law_sides, defBody s_law_sides, defScope s_law_sides, [], []⟩
def fn29 : He.DefD := ⟨("_law_pair", none), "_law_pair", "_law_pair", defArgs s_law_pair, defBody s_law_pair, defScope s_law_pair, [], []⟩
def fn30 : He.DefD := ⟨("_law_lcm", none), "_law_lcm", "_law_lcm", defArgs s_law_lcm, defBody s_law_lcm, defScope s_law_lcm, [], []⟩
def fn31 : He.DefD := ⟨("_law_cut_box", none), "_law_cut_box", "_law_cut_box", defArgs s_law_cut_box, defBody s_law_cut_box, defScope s_law_cut_box, [], []⟩
def fn32 : He.DefD := ⟨("_law_plain_box", none), "_law_plain_box", "_law_plain_box", defArgs s_law_plain_box, defBody s_law_plain_box, defScope s_law_plain_box, [], []⟩
def fn33 : He.DefD := ⟨("_law_is_sum", none), "_law_is_sum", "_law_is_sum", defArgs s_law_is_sum, defBody s_law_is_sum, defScope s_law_is_sum, [], []⟩
def fn34 : He.DefD := ⟨("_law_rests", none), "_law_rests", "_law_rests", defArgs s_law_rests, defBody s_law_rests, defScope s_law_rests, [], []⟩
def fn35 : He.DefD := ⟨("_law_is_filled", none), "_law_is_filled", "_law_is_filled", defArgs s_law_is_filled, defBody s_law_is_filled, defScope s_law_is_filled, [], []⟩
def fn36 : He.DefD := ⟨("_law_with", none), "_law_with", "_law_with", defArgs s_law_with, defBody s_law_with, defScope s_law_with, [], []⟩
def fn37 : He.DefD := ⟨("_law_is_part", none), "_law_is_part", "_law_is_part", defArgs s_law_is_part, defBody s_law_is_part, defScope s_law_is_part, [], []⟩
def fn38 : He.DefD := ⟨("_law_is_cut", none), "_law_is_cut", "_law_is_cut", defArgs s_law_is_cut, defBody s_law_is_cut, defScope s_law_is_cut, [], []⟩
def fn39 : He.DefD := ⟨("_law_paper_holds", none), "_law_paper_holds", "_law_paper_holds", defArgs s_law_paper_holds, defBody s_law_paper_holds, defScope s_law_paper_holds, [], []⟩
def fn40 : He.DefD := ⟨("_law_page_after", none), "_law_page_after", "_law_page_after", defArgs s_law_page_after, defBody s_law_page_after, defScope s_law_page_after, [], []⟩
def fn41 : He.DefD := ⟨("_law_turned_page", none), "_law_turned_page", "_law_turned_page", defArgs s_law_turned_page, defBody s_law_turned_page, defScope s_law_turned_page, [], []⟩
def fn42 : He.DefD := ⟨("_law_do", none), "_law_do", "_law_do", defArgs s_law_do, defBody s_law_do, defScope s_law_do, [], []⟩
def fn43 : He.DefD := ⟨("_law_done", none), "_law_done", "_law_done", defArgs s_law_done, defBody s_law_done, defScope s_law_done, [], []⟩
def fn44 : He.DefD := ⟨("_law_shows", none), "_law_shows", "_law_shows", defArgs s_law_shows, defBody s_law_shows, defScope s_law_shows, [], []⟩
def fn45 : He.DefD := ⟨("_law_sides_text", none), "_law_sides_text", "_law_sides_text", defArgs s_law_sides_text, defBody s_law_sides_text, defScope s_law_sides_text, [], []⟩
def fn46 : He.DefD := ⟨("_law_kinds_text", none), "_law_kinds_text", "_law_kinds_text", defArgs s_law_kinds_text, defBody s_law_kinds_text, defScope s_law_kinds_text, [], []⟩
def fn47 : He.DefD := ⟨("_law_says", none), "_law_says", "_law_says", defArgs s_law_says, defBody s_law_says, defScope s_law_says, [], []⟩
def fn48 : He.DefD := ⟨("_law_is_full", none), "_law_is_full", "_law_is_full", defArgs s_law_is_full, defBody s_law_is_full, defScope s_law_is_full, [], []⟩
def fn49 : He.DefD := ⟨("_law_due_shows", none), "_law_due_shows", "_law_due_shows", defArgs s_law_due_shows, defBody s_law_due_shows, defScope s_law_due_shows, [], []⟩
def fn50 : He.DefD := ⟨("_law_start", none), "_law_start", "_law_start", defArgs s_law_start, defBody s_law_start, defScope s_law_start, [], []⟩
def fn51 : He.DefD := ⟨("_law_is_busy", none), "_law_is_busy", "_law_is_busy", defArgs s_law_is_busy, defBody s_law_is_busy, defScope s_law_is_busy, [], []⟩
def fn52 : He.DefD := ⟨("_law_copy_right", none), "_law_copy_right", "_law_copy_right", defArgs s_law_copy_right, defBody s_law_copy_right, defScope s_law_copy_right, [], []⟩
def fn53 : He.DefD := ⟨("_law_step", none), "_law_step", "_law_step", defArgs s_law_step, defBody s_law_step, defScope s_law_step, [], []⟩
def fn54 : He.DefD := ⟨("_law_tried", none), "_law_tried", "_law_tried", defArgs s_law_tried, defBody s_law_tried, defScope s_law_tried, [], []⟩
def fn55 : He.DefD := ⟨("law", none), "law", "law", defArgs s_law, defBody s_law, defScope s_law, [], []⟩
def fn56 : He.DefD := ⟨("Yard", some "__init__"), "__init__", "Yard.__init__", defArgs s_Y_init, defBody s_Y_init, defScope s_Y_init, [], []⟩
def fn57 : He.DefD := ⟨("Yard", some "stand"), "stand", "Yard.stand", defArgs s_Y_stand, defBody s_Y_stand, defScope s_Y_stand, [], []⟩
def fn58 : He.DefD := ⟨("Yard", some "judge"), "judge", "Yard.judge", defArgs s_Y_judge, defBody s_Y_judge, defScope s_Y_judge, [], []⟩
def fn59 : He.DefD := ⟨("Yard", some "require_free"), "require_free", "Yard.require_free", defArgs s_Y_require_free, defBody s_Y_require_free, defScope s_Y_require_free, [], []⟩
def fn60 : He.DefD := ⟨("Yard", some "tell"), "tell", "Yard.tell", defArgs s_Y_tell, defBody s_Y_tell, defScope s_Y_tell, [], []⟩
def fn61 : He.DefD := ⟨("Yard", some "do"), "do", "Yard.do", defArgs s_Y_do, defBody s_Y_do, defScope s_Y_do, [], []⟩
def fn62 : He.DefD := ⟨("Yard", some "edit"), "edit", "Yard.edit", defArgs s_Y_edit, defBody s_Y_edit, defScope s_Y_edit, [], []⟩
def fn63 : He.DefD := ⟨("Yard", some "side"), "side", "Yard.side", defArgs s_Y_side, defBody s_Y_side, defScope s_Y_side, [], []⟩
def fn64 : He.DefD := ⟨("Yard", some "brick"), "brick", "Yard.brick", defArgs s_Y_brick, defBody s_Y_brick, defScope s_Y_brick, [], []⟩
def fn65 : He.DefD := ⟨("Yard", some "swap"), "swap", "Yard.swap", defArgs s_Y_swap, defBody s_Y_swap, defScope s_Y_swap, [], []⟩
def fn66 : He.DefD := ⟨("Yard", some "turn"), "turn", "Yard.turn", defArgs s_Y_turn, defBody s_Y_turn, defScope s_Y_turn, [], []⟩
def fn67 : He.DefD := ⟨("Yard", some "undo"), "undo", "Yard.undo", defArgs s_Y_undo, defBody s_Y_undo, defScope s_Y_undo, [], []⟩
def fn68 : He.DefD := ⟨("Yard", some "attempt"), "attempt", "Yard.attempt", defArgs s_Y_attempt, defBody s_Y_attempt, defScope s_Y_attempt, [], [("on_step", .non)]⟩
def fn69 : He.DefD := ⟨("Yard", some "do_all"), "do_all", "Yard.do_all", defArgs s_Y_do_all, defBody s_Y_do_all, defScope s_Y_do_all, [], []⟩
def fn70 : He.DefD := ⟨("Yard", some "state_at"), "state_at", "Yard.state_at", defArgs s_Y_state_at, defBody s_Y_state_at, defScope s_Y_state_at, [], [("version", .non)]⟩
def fn71 : He.DefD := ⟨("Yard", some "each_version"), "each_version", "Yard.each_version", defArgs s_Y_each_version, defBody s_Y_each_version, defScope s_Y_each_version, [], []⟩
def fn72 : He.DefD := ⟨("Yard", some "fresh"), "fresh", "Yard.fresh", defArgs s_Y_fresh, defBody s_Y_fresh, defScope s_Y_fresh, [], []⟩
def fn73 : He.DefD := ⟨("Yard", some "copy"), "copy", "Yard.copy", defArgs s_Y_copy, defBody s_Y_copy, defScope s_Y_copy, [], []⟩
def fn74 : He.DefD := ⟨("Yard", some "__setitem__"), "__setitem__", "Yard.__setitem__", defArgs s_Y_setitem, defBody s_Y_setitem, defScope s_Y_setitem, [], []⟩
def fn75 : He.DefD := ⟨("Yard", some "__iadd__"), "__iadd__", "Yard.__iadd__", defArgs s_Y_iadd, defBody s_Y_iadd, defScope s_Y_iadd, [], []⟩
def fn76 : He.DefD := ⟨("Yard", some "__len__"), "__len__", "Yard.__len__", defArgs s_Y_len, defBody s_Y_len, defScope s_Y_len, [], []⟩
def fn77 : He.DefD := ⟨("Yard", some "__bool__"), "__bool__", "Yard.__bool__", defArgs s_Y_bool, defBody s_Y_bool, defScope s_Y_bool, [], []⟩
def fn78 : He.DefD := ⟨("Yard", some "__str__"), "__str__", "Yard.__str__", defArgs s_Y_str, defBody s_Y_str, defScope s_Y_str, [], []⟩
def fn79 : He.DefD := ⟨("Yard", some "__eq__"), "__eq__", "Yard.__eq__", defArgs s_Y_eq, defBody s_Y_eq, defScope s_Y_eq, [], []⟩
def fn80 : He.DefD := ⟨("FullYard", some "fresh"), "fresh", "FullYard.fresh", defArgs s_F_fresh, defBody s_F_fresh, defScope s_F_fresh, [], []⟩
def fn81 : He.DefD := ⟨("FullYard", some "judge"), "judge", "FullYard.judge", defArgs s_F_judge, defBody s_F_judge, defScope s_F_judge, [], []⟩
def fn82 : He.DefD := ⟨("Shell", some "__init__"), "__init__", "Shell.__init__", defArgs s_S_init, defBody s_S_init, defScope s_S_init, [], []⟩
def fn83 : He.DefD := ⟨("Shell", some "__call__"), "__call__", "Shell.__call__", defArgs s_S_call, defBody s_S_call, defScope s_S_call, [], []⟩
def fn84 : He.DefD := ⟨("Shell", some "execute"), "execute", "Shell.execute", defArgs s_S_execute, defBody s_S_execute, defScope s_S_execute, [], []⟩
def fn85 : He.DefD := ⟨("Shell", some "answer"), "answer", "Shell.answer", defArgs s_S_answer, defBody s_S_answer, defScope s_S_answer, [], []⟩
def fn86 : He.DefD := ⟨("Shell", some "told"), "told", "Shell.told", defArgs s_S_told, defBody s_S_told, defScope s_S_told, [], []⟩
def fnL_0 : List He.DefD := [fn0, fn1, fn2, fn3, fn4, fn5, fn6, fn7, fn8, fn9, fn10, fn11, fn12, fn13, fn14, fn15, fn16, fn17, fn18, fn19]
def fnL_1 : List He.DefD := [fn20, fn21, fn22, fn23, fn24, fn25, fn26, fn27, fn28, fn29, fn30, fn31, fn32, fn33, fn34, fn35, fn36, fn37, fn38, fn39]
def fnL_2 : List He.DefD := [fn40, fn41, fn42, fn43, fn44, fn45, fn46, fn47, fn48, fn49, fn50, fn51, fn52, fn53, fn54, fn55, fn56, fn57, fn58, fn59]
def fnL_3 : List He.DefD := [fn60, fn61, fn62, fn63, fn64, fn65, fn66, fn67, fn68, fn69, fn70, fn71, fn72, fn73, fn74, fn75, fn76, fn77, fn78, fn79]
def fnL_4 : List He.DefD := [fn80, fn81, fn82, fn83, fn84, fn85, fn86]
def fnL : List He.DefD := fnL_0 ++ (fnL_1 ++ (fnL_2 ++ (fnL_3 ++ (fnL_4))))
def faL_0 : List He.Fa := [.free "len", .free "isinstance", .free "int", .free "bool", .free "str", .free "tuple", .free "list", .free "enumerate", .free "range", .free "zip", .free "all", .free "abs", .free "repr", .free "sorted", .free "set", .free "super", .free "min", .free "KeyError", .int "MAX_DIMS" 4, .int "MAX_SIDE" 1000000000000]
def faL_1 : List He.Fa := [.int "MAX_KINDS" 4, .int "HISTORY" 30, .int "BATCH" 20, .str "CUT" "cut", .str "SIDES" "sides", .str "STEP" "step", .str "GAP" "gap", .str "FILLED" "filled", .str "BARRED" "barred", .str "SAME" "same", .str "WHAT" "what", .glo "name_of", .glo "first_name", .glo "is_integer", .glo "sides_error", .glo "kinds_error", .glo "pair_error", .glo "box_error", .glo "common", .glo "inverse"]
def faL_2 : List He.Fa := [.glo "least_times", .glo "rests_papers", .glo "bar_along", .glo "crossing", .glo "paper_papers", .glo "is_filled", .glo "sides_text", .glo "kinds_text", .glo "swapped", .glo "is_order", .glo "turned", .glo "is_edit", .glo "fits", .glo "_law_deck", .glo "_law_draw", .glo "_law_one", .glo "_law_mixed", .glo "_law_divisor", .glo "_law_whole", .glo "_law_sides"]
def faL_3 : List He.Fa := [.glo "_law_pair", .glo "_law_lcm", .glo "_law_cut_box", .glo "_law_plain_box", .glo "_law_is_sum", .glo "_law_rests", .glo "_law_is_filled", .glo "_law_with", .glo "_law_is_part", .glo "_law_is_cut", .glo "_law_paper_holds", .glo "_law_page_after", .glo "_law_turned_page", .glo "_law_do", .glo "_law_done", .glo "_law_shows", .glo "_law_sides_text", .glo "_law_kinds_text", .glo "_law_says", .glo "_law_is_full"]
def faL_4 : List He.Fa := [.glo "_law_due_shows", .glo "_law_start", .glo "_law_is_busy", .glo "_law_copy_right", .glo "_law_step", .glo "_law_tried", .glo "law", .glo "Yard", .glo "FullYard", .glo "Busy", .glo "BrickError", .glo "BadBatch", .glo "BadBox", .glo "BadKinds", .glo "BadOrder", .glo "BadPaper", .glo "BadSide", .glo "BadText", .glo "NoAxis", .glo "NoKind"]
def faL_5 : List He.Fa := [.glo "NoNumber", .glo "NoSeam", .glo "NoVersion", .glo "NotFilled", .glo "NothingToUndo", .glo "Rejected", .glo "TooLarge", .glo "TooManyEdits", .glo "UnlikeAxes", .glo "Unfit", .glo "Shell", .glo "SIZES", .glo "DEEDS", .glo "SHAPES"]
def faL : List He.Fa := faL_0 ++ (faL_1 ++ (faL_2 ++ (faL_3 ++ (faL_4 ++ (faL_5)))))
def tsL : List He.Tab := [((fun K => He.ga K "SIZES"), ["side", "brick", "swap", "turn", "stretch", "more"]), ((fun K => He.ga K "DEEDS"), ["side", "brick", "swap", "turn", "stretch", "more"]), ((fun K => He.ga K "SHAPES"), ["side", "brick", "swap", "stretch", "more", "undo", "show", "paper", "filled", "news", "along", "next", "cuts", "cut"])]
def tfL : List He.Defn := [("law", none)]
def bMore (K : PySem.W.Frag) (file : Str) : Bool := (bFuns K).all id && (bYrd K && (bExn K && (bShl K && (bTab K && (bFI K file && ((bBMeth K (kC K false) "edit" (He.ma K (He.ga K "Yard") "edit") && bBMeth K (kC K true) "edit" (He.ma K (He.ga K "Yard") "edit")) && decide (PySem.W.kitOne K (.type "NoneType") (.ref (He.ga K "Yard")) = some false)))))))
def nmsL0 : List Str := ["_wall", "MAX_DIMS", "MAX_SIDE", "MAX_KINDS", "HISTORY", "BATCH", "BrickError", "BadBatch", "BadBox", "BadKinds", "BadOrder", "BadPaper", "BadSide", "BadText", "Busy", "NoAxis", "NoKind", "NoNumber", "NoSeam", "NoVersion"]
def nmsL1 : List Str := ["NotFilled", "NothingToUndo", "Rejected", "TooLarge", "TooManyEdits", "UnlikeAxes", "Unfit", "first_name", "name_of", "is_integer", "sides_error", "kinds_error", "pair_error", "box_error", "with_side", "common", "joint", "inverse", "least_times", "is_sum"]
def nmsL2 : List Str := ["floors", "count_sums", "CUT", "SIDES", "STEP", "GAP", "rests", "rests_papers", "bar_along", "crossing", "paper", "paper_papers", "is_filled", "Cuts", "all_cuts", "count_cuts", "cut_at", "sides_text", "kinds_text", "FILLED"]
def nmsL3 : List Str := ["BARRED", "SAME", "require_axis", "require_side", "put_side", "put_brick", "swapped", "is_order", "turned", "stretched", "more", "DEEDS", "SIZES", "is_edit", "Yard", "FullYard", "NONE", "STEPS", "SUMS", "sums_of"]
def nmsL4 : List Str := ["rests_sizes", "along", "count_by", "least_with", "sum_at", "numbered", "next_side", "WHAT", "SHAPES", "is_number", "fits", "spoken", "Shell", "_law_deck", "_law_draw", "_law_one", "_law_mixed", "_law_divisor", "_law_whole", "_law_sides"]
def nmsL5 : List Str := ["_law_pair", "_law_lcm", "_law_cut_box", "_law_plain_box", "_law_is_sum", "_law_rests", "_law_is_filled", "_law_with", "_law_is_part", "_law_is_cut", "_law_paper_holds", "_law_page_after", "_law_turned_page", "_law_more_page", "_law_do", "_law_done", "_law_shows", "_law_sides_text", "_law_kinds_text", "_law_says"]
def nmsL6 : List Str := ["_law_is_full", "_law_due_shows", "_law_start", "_law_is_busy", "_law_copy_right", "_law_step", "_law_tried"]
def nmsL : List Str := nmsL0 ++ (nmsL1 ++ (nmsL2 ++ (nmsL3 ++ (nmsL4 ++ (nmsL5 ++ (nmsL6))))))
def asL0 : List Nat := [2, 3, 30, 31, 44, 65, 86, 107, 128, 149, 170, 181, 182, 203, 224, 245, 266, 287, 308, 320]
def asL1 : List Nat := [341, 362, 374, 386, 398, 406, 407, 413, 414, 420, 421, 427, 428, 434, 435, 441, 442, 448, 449, 462]
def asL2 : List Nat := [463, 476, 477, 483, 484, 509, 510, 516, 517, 521, 522, 528, 529, 535, 536, 597, 598, 602, 603, 637]
def asL3 : List Nat := [638, 642, 643, 647, 648, 659, 660, 666, 667, 680, 681, 687, 688, 694, 695, 696, 702, 703, 704, 710]
def asL4 : List Nat := [711, 712, 718, 719, 720, 726, 727, 728, 734, 735, 741, 742, 748, 749, 755, 756, 762, 763, 769, 770]
def asL5 : List Nat := [776, 777, 783, 784, 790, 791, 804, 805, 806, 812, 813, 819, 820, 821, 827, 828, 834, 835, 841, 842]
def asL6 : List Nat := [848, 849, 862, 863, 869, 870, 876, 877, 883, 884, 897, 898, 904, 905, 907, 908, 916, 927, 928, 952]
def asL7 : List Nat := [953, 959, 960, 962, 963, 1016, 1025, 1026, 1044, 1045, 1059, 1060, 1066, 1067, 1071, 1072, 1076, 1077, 1086, 1087]
def asL8 : List Nat := [1095, 1096, 1102, 1103, 1109, 1110, 1116, 1117, 1123, 1124, 1130, 1131, 1135, 1136, 1142, 1143, 1149, 1150, 1156, 1157]
def asL9 : List Nat := [1161, 1162, 1166, 1167, 1171, 1172, 1178, 1179, 1185, 1186, 1192, 1193, 1199, 1200, 1204, 1205, 1209, 1210, 1214, 1215]
def asL10 : List Nat := [1226, 1227, 1233, 1234, 1240, 1241, 1245, 1246, 1250, 1251, 1257, 1258, 1264, 1265, 1271, 1272, 1278, 1279, 1285, 1286]
def asL11 : List Nat := [1292, 1293, 1297, 1298, 1304, 1305, 1309, 1310]
def asL : List Nat := asL0 ++ (asL1 ++ (asL2 ++ (asL3 ++ (asL4 ++ (asL5 ++ (asL6 ++ (asL7 ++ (asL8 ++ (asL9 ++ (asL10 ++ (asL11)))))))))))
abbrev rowL : PySem.W.OpenRow := PySem.W.OpenLaw.row PySem.Challenge.rw_twobricks_k82_whole_steps_see_and_cannot
abbrev fileL : Str := rowL.prog.main.file
abbrev viewL : Program := PySem.W.view rowL.prog [137]
end TB
/-! the run of the top, four looks at its end, at both answers of the world -/
namespace TB
open PySem PySem.W PySem.Calls PyProof.Rows
theorem runHF (w : World) (os : OsState) : ((HandSHeadRun.endF (HandSHeadRun.stepQ (HandSHeadRun.denQ HandSHeadRun.tabQ) rowL.prog (w.withFollow "special-get-raises" false)) 12000 rowL.prog (w.withFollow "special-get-raises" false) os)).map (fun s => (fnL.all fun d => d.ok (He.frT (HandSHeadRun.getT s) asL), fnL.map fun d => He.fnW (He.frT (HandSHeadRun.getT s) asL) d.at_, tsL.map fun t => He.dicW (He.frT (HandSHeadRun.getT s) asL) (t.1 (He.frT (HandSHeadRun.getT s) asL)))) = some (true, fnL.map He.DefD.val, tsL.map fun t => some (He.keysIn ((w.withFollow "special-get-raises" false)).params t.2)) := by kernel_rfl
theorem runHT (w : World) (os : OsState) : ((HandSHeadRun.endF (HandSHeadRun.stepQ (HandSHeadRun.denQ HandSHeadRun.tabQ) rowL.prog (w.withFollow "special-get-raises" true)) 12000 rowL.prog (w.withFollow "special-get-raises" true) os)).map (fun s => (fnL.all fun d => d.ok (He.frT (HandSHeadRun.getT s) asL), fnL.map fun d => He.fnW (He.frT (HandSHeadRun.getT s) asL) d.at_, tsL.map fun t => He.dicW (He.frT (HandSHeadRun.getT s) asL) (t.1 (He.frT (HandSHeadRun.getT s) asL)))) = some (true, fnL.map He.DefD.val, tsL.map fun t => some (He.keysIn ((w.withFollow "special-get-raises" true)).params t.2)) := by kernel_rfl
theorem runGF (w : World) (os : OsState) : ((HandSHeadRun.endF (HandSHeadRun.stepQ (HandSHeadRun.denQ HandSHeadRun.tabQ) rowL.prog (w.withFollow "special-get-raises" false)) 12000 rowL.prog (w.withFollow "special-get-raises" false) os)).map (fun s => ((faL.all fun f => f.ok (He.frT (HandSHeadRun.getT s) asL)) && (bMore (He.frT (HandSHeadRun.getT s) asL) fileL && He.tabsB (HandSHeadRun.getT s) tfL (He.frT (HandSHeadRun.getT s) asL)), prL.map fun d => fnX (He.frT (HandSHeadRun.getT s) asL) (d.at_ (He.frT (HandSHeadRun.getT s) asL)))) = some (true, prL.map PD.val) := by kernel_rfl
theorem runGT (w : World) (os : OsState) : ((HandSHeadRun.endF (HandSHeadRun.stepQ (HandSHeadRun.denQ HandSHeadRun.tabQ) rowL.prog (w.withFollow "special-get-raises" true)) 12000 rowL.prog (w.withFollow "special-get-raises" true) os)).map (fun s => ((faL.all fun f => f.ok (He.frT (HandSHeadRun.getT s) asL)) && (bMore (He.frT (HandSHeadRun.getT s) asL) fileL && He.tabsB (HandSHeadRun.getT s) tfL (He.frT (HandSHeadRun.getT s) asL)), prL.map fun d => fnX (He.frT (HandSHeadRun.getT s) asL) (d.at_ (He.frT (HandSHeadRun.getT s) asL)))) = some (true, prL.map PD.val) := by kernel_rfl
theorem runCF (w : World) (os : OsState) : ((HandSHeadRun.endF (HandSHeadRun.stepQ (HandSHeadRun.denQ HandSHeadRun.tabQ) rowL.prog (w.withFollow "special-get-raises" false)) 12000 rowL.prog (w.withFollow "special-get-raises" false) os)).map (fun s => HandSHeadRun.seenQ viewL nmsL (importedModules rowL.prog.main.body) (fun s => xlAt viewL [] s && recOk rowL.toRowW.records s) s.abs) = some (openGood viewL nmsL) := by kernel_rfl
theorem runCT (w : World) (os : OsState) : ((HandSHeadRun.endF (HandSHeadRun.stepQ (HandSHeadRun.denQ HandSHeadRun.tabQ) rowL.prog (w.withFollow "special-get-raises" true)) 12000 rowL.prog (w.withFollow "special-get-raises" true) os)).map (fun s => HandSHeadRun.seenQ viewL nmsL (importedModules rowL.prog.main.body) (fun s => xlAt viewL [] s && recOk rowL.toRowW.records s) s.abs) = some (openGood viewL nmsL) := by kernel_rfl
theorem runBF (w : World) (os : OsState) : ((HandSHeadRun.endF (HandSHeadRun.stepQ (HandSHeadRun.denQ HandSHeadRun.tabQ) rowL.prog (w.withFollow "special-get-raises" false)) 12000 rowL.prog (w.withFollow "special-get-raises" false) os)).map (fun s => HandSHeadRun.looksF rowL.prog (boot_heap ((w.withFollow "special-get-raises" false)).params) s.abs) = some true := by kernel_rfl
theorem runBT (w : World) (os : OsState) : ((HandSHeadRun.endF (HandSHeadRun.stepQ (HandSHeadRun.denQ HandSHeadRun.tabQ) rowL.prog (w.withFollow "special-get-raises" true)) 12000 rowL.prog (w.withFollow "special-get-raises" true) os)).map (fun s => HandSHeadRun.looksF rowL.prog (boot_heap ((w.withFollow "special-get-raises" true)).params) s.abs) = some true := by kernel_rfl
theorem runB (w : World) : ∀ os : OsState, ((HandSHeadRun.endF (HandSHeadRun.stepQ (HandSHeadRun.denQ HandSHeadRun.tabQ) rowL.prog w) 12000 rowL.prog w os)).map (fun s => HandSHeadRun.looksF rowL.prog (boot_heap (w).params) s.abs) = some true :=
  byRow2 "special-get-raises" (P := fun w => ∀ os : OsState, ((HandSHeadRun.endF (HandSHeadRun.stepQ (HandSHeadRun.denQ HandSHeadRun.tabQ) rowL.prog w) 12000 rowL.prog w os)).map (fun s => HandSHeadRun.looksF rowL.prog (boot_heap (w).params) s.abs) = some true) (fun w os => runBF w os) (fun w os => runBT w os) w
theorem runC (w : World) : ∀ os : OsState, ((HandSHeadRun.endF (HandSHeadRun.stepQ (HandSHeadRun.denQ HandSHeadRun.tabQ) rowL.prog w) 12000 rowL.prog w os)).map (fun s => HandSHeadRun.seenQ viewL nmsL (importedModules rowL.prog.main.body) (fun s => xlAt viewL [] s && recOk rowL.toRowW.records s) s.abs) = some (openGood viewL nmsL) :=
  byRow2 "special-get-raises" (P := fun w => ∀ os : OsState, ((HandSHeadRun.endF (HandSHeadRun.stepQ (HandSHeadRun.denQ HandSHeadRun.tabQ) rowL.prog w) 12000 rowL.prog w os)).map (fun s => HandSHeadRun.seenQ viewL nmsL (importedModules rowL.prog.main.body) (fun s => xlAt viewL [] s && recOk rowL.toRowW.records s) s.abs) = some (openGood viewL nmsL)) (fun w os => runCF w os) (fun w os => runCT w os) w
theorem runG (w : World) : ∀ os : OsState, ((HandSHeadRun.endF (HandSHeadRun.stepQ (HandSHeadRun.denQ HandSHeadRun.tabQ) rowL.prog w) 12000 rowL.prog w os)).map (fun s => ((faL.all fun f => f.ok (He.frT (HandSHeadRun.getT s) asL)) && (bMore (He.frT (HandSHeadRun.getT s) asL) fileL && He.tabsB (HandSHeadRun.getT s) tfL (He.frT (HandSHeadRun.getT s) asL)), prL.map fun d => fnX (He.frT (HandSHeadRun.getT s) asL) (d.at_ (He.frT (HandSHeadRun.getT s) asL)))) = some (true, prL.map PD.val) :=
  byRow2 "special-get-raises" (P := fun w => ∀ os : OsState, ((HandSHeadRun.endF (HandSHeadRun.stepQ (HandSHeadRun.denQ HandSHeadRun.tabQ) rowL.prog w) 12000 rowL.prog w os)).map (fun s => ((faL.all fun f => f.ok (He.frT (HandSHeadRun.getT s) asL)) && (bMore (He.frT (HandSHeadRun.getT s) asL) fileL && He.tabsB (HandSHeadRun.getT s) tfL (He.frT (HandSHeadRun.getT s) asL)), prL.map fun d => fnX (He.frT (HandSHeadRun.getT s) asL) (d.at_ (He.frT (HandSHeadRun.getT s) asL)))) = some (true, prL.map PD.val)) (fun w os => runGF w os) (fun w os => runGT w os) w
theorem runH (w : World) : ∀ os : OsState, ((HandSHeadRun.endF (HandSHeadRun.stepQ (HandSHeadRun.denQ HandSHeadRun.tabQ) rowL.prog w) 12000 rowL.prog w os)).map (fun s => (fnL.all fun d => d.ok (He.frT (HandSHeadRun.getT s) asL), fnL.map fun d => He.fnW (He.frT (HandSHeadRun.getT s) asL) d.at_, tsL.map fun t => He.dicW (He.frT (HandSHeadRun.getT s) asL) (t.1 (He.frT (HandSHeadRun.getT s) asL)))) = some (true, fnL.map He.DefD.val, tsL.map fun t => some (He.keysIn (w).params t.2)) :=
  byRow2 "special-get-raises" (P := fun w => ∀ os : OsState, ((HandSHeadRun.endF (HandSHeadRun.stepQ (HandSHeadRun.denQ HandSHeadRun.tabQ) rowL.prog w) 12000 rowL.prog w os)).map (fun s => (fnL.all fun d => d.ok (He.frT (HandSHeadRun.getT s) asL), fnL.map fun d => He.fnW (He.frT (HandSHeadRun.getT s) asL) d.at_, tsL.map fun t => He.dicW (He.frT (HandSHeadRun.getT s) asL) (t.1 (He.frT (HandSHeadRun.getT s) asL)))) = some (true, fnL.map He.DefD.val, tsL.map fun t => some (He.keysIn (w).params t.2))) (fun w os => runHF w os) (fun w os => runHT w os) w
end TB
/-! what stays of the heap; data that never changes -/
namespace TB
open PySem PySem.Spec PyProof.Rows L2
/-- all stays but what stands at l; tuples and locked things stay anyway -/
structure Kp (l : List Addr) (H H' : Hp) : Prop where
  keep : ∀ b o, H b = some o → b ∉ l → H' b = some o
  tup : ∀ b xs, H b = some (.tup xs) → H' b = some (.tup xs)
  frz : ∀ b o u, H b = some (.frz o u) → H' b = some (.frz o u)
section
variable {l l' : List Addr} {H H1 H2 : Hp} {p : Addr} {o : HO} {K : PySem.W.Frag}
theorem Kp.refl : Kp l H H := ⟨fun _ _ h _ => h, fun _ _ h => h, fun _ _ _ h => h⟩
theorem Kp.trans (a : Kp l H H1) (b : Kp l H1 H2) : Kp l H H2 :=
  ⟨fun c o h n => b.keep c o (a.keep c o h n) n, fun c x h => b.tup c x (a.tup c x h), fun c o u h => b.frz c o u (a.frz c o u h)⟩
theorem Kp.mono (a : Kp l H H1) (h : ∀ b ∈ l, b ∈ l') : Kp l' H H1 := ⟨fun c o e n => a.keep c o e fun q => n (h c q), a.tup, a.frz⟩
theorem Kp.up (a : Kp [] H H1) : Kp l H H1 := a.mono fun _ h => nomatch h
theorem Kp.get (a : Kp [] H H1) {b : Addr} {o : HO} (h : H b = some o) : H1 b = some o := a.keep b o h (fun q => nomatch q)
theorem Kp.new (h : H p = none) : Kp l H (upd H p o) :=
  ⟨fun b u e _ => by rw [upd_ne (ne_of_none e h)]; exact e, fun b u e => by rw [upd_ne (ne_of_none e h)]; exact e, fun b u v e => by rw [upd_ne (ne_of_none e h)]; exact e⟩
theorem Kp.wl {xs : List V} (h : H p = some (.lst xs)) (hp : p ∈ l) : Kp l H (upd H p o) :=
  ⟨fun b u e n => by rw [upd_ne (fun q => n (by rw [q]; exact hp))]; exact e, fun b u e => by rw [upd_ne (ne_of e h (by intro z; cases z))]; exact e, fun b u v e => by rw [upd_ne (ne_of e h (by intro z; cases z))]; exact e⟩
theorem Kp.wi {C dx : Addr} {fs : List (Str × V)} (h : H p = some (.ins C dx fs)) (hp : p ∈ l) : Kp l H (upd H p o) :=
  ⟨fun b u e n => by rw [upd_ne (fun q => n (by rw [q]; exact hp))]; exact e, fun b u e => by rw [upd_ne (ne_of e h (by intro z; cases z))]; exact e, fun b u v e => by rw [upd_ne (ne_of e h (by intro z; cases z))]; exact e⟩
/-- what is written did not stand ahead -/
theorem Kp.wn (a : Kp l H H1) (h : H p = none) : Kp l H (upd H1 p o) :=
  ⟨fun b u e n => by rw [upd_ne (ne_of_none e h)]; exact a.keep b u e n, fun b u e => by rw [upd_ne (ne_of_none e h)]; exact a.tup b u e, fun b u v e => by rw [upd_ne (ne_of_none e h)]; exact a.frz b u v e⟩
theorem Kp.free (a : Kp [] H H1) (h : H1 p = none) : H p = none := by
  cases e : H p with
  | none => rfl
  | some o => rw [a.get e] at h; cases h
theorem Kp.sqT (k : Kp l H H1) {a : Addr} {xs : List V} (h : SqT K H a xs) : SqT K H1 a xs := by
  rcases h with (h | ⟨o, h⟩) | h
  · exact .inl (.inl (k.tup a xs h))
  · exact .inl (.inr ⟨o, k.frz a o _ h⟩)
  · exact .inr h
theorem Kp.sqL (k : Kp [] H H1) {a : Addr} {xs : List V} (h : SqL K H a xs) : SqL K H1 a xs := by
  rcases h with (h | ⟨o, h⟩) | h
  · exact .inl (.inl (k.get h))
  · exact .inl (.inr ⟨o, k.frz a o _ h⟩)
  · exact .inr h
end
/-! ### data that never changes -/
mutual
inductive Im (K : PySem.W.Frag) (H : Hp) : V → PyData → Prop
  | non : Im K H .non .none
  | bl (b : Bool) : Im K H (.bl b) (.bool b)
  | int (i : Int) : Im K H (.int i) (.int i)
  | str (x : Str) : Im K H (.str x) (.str x)
  | tup {a : Addr} {xs : List V} {ds : List PyData} : SqT K H a xs → ImAll K H xs ds → Im K H (.ref a) (.tuple ds)
inductive ImAll (K : PySem.W.Frag) (H : Hp) : List V → List PyData → Prop
  | nil : ImAll K H [] []
  | cons {v : V} {vs : List V} {d : PyData} {ds : List PyData} : Im K H v d → ImAll K H vs ds → ImAll K H (v :: vs) (d :: ds)
end
section
variable {K : PySem.W.Frag} {H H1 : Hp} {l : List Addr}
mutual
theorem Im.kp (k : Kp l H H1) : ∀ {v : V} {d : PyData}, Im K H v d → Im K H1 v d
  | _, _, .non => .non
  | _, _, .bl b => .bl b
  | _, _, .int i => .int i
  | _, _, .str x => .str x
  | _, _, .tup h r => .tup (k.sqT h) (ImAll.kp k r)
theorem ImAll.kp (k : Kp l H H1) : ∀ {vs : List V} {ds : List PyData}, ImAll K H vs ds → ImAll K H1 vs ds
  | _, _, .nil => .nil
  | _, _, .cons h r => .cons (Im.kp k h) (ImAll.kp k r)
end
mutual
theorem Im.dp : ∀ {v : V} {d : PyData}, Im K H v d → Dp K H v d
  | _, _, .non => .non
  | _, _, .bl b => .bl b
  | _, _, .int i => .int i
  | _, _, .str x => .str x
  | _, _, .tup h r => .tup h (ImAll.dp r)
theorem ImAll.dp : ∀ {vs : List V} {ds : List PyData}, ImAll K H vs ds → DpAll K H vs ds
  | _, _, .nil => .nil
  | _, _, .cons h r => .cons (Im.dp h) (ImAll.dp r)
end
theorem ImAll.len : ∀ {vs : List V} {ds : List PyData}, ImAll K H vs ds → vs.length = ds.length
  | _, _, .nil => rfl
  | _, _, .cons _ r => congrArg (· + 1) (ImAll.len r)
theorem ImAll.get : ∀ {vs : List V} {ds : List PyData} {i : Nat} {d : PyData}, ImAll K H vs ds → ds[i]? = some d → ∃ v, vs[i]? = some v ∧ Im K H v d
  | _, _, _, _, .nil, e => by simp at e
  | _, _, 0, _, .cons h _, e => by simp at e; subst e; exact ⟨_, rfl, h⟩
  | _, _, i + 1, _, .cons _ r, e => by
    obtain ⟨v, h1, h2⟩ := ImAll.get (i := i) r (by simpa using e)
    exact ⟨v, by simpa using h1, h2⟩
theorem ImAll.getV : ∀ {vs : List V} {ds : List PyData} {i : Nat} {v : V}, ImAll K H vs ds → vs[i]? = some v → ∃ d, ds[i]? = some d ∧ Im K H v d
  | _, _, _, _, .nil, e => by simp at e
  | _, _, 0, _, .cons h _, e => by simp at e; subst e; exact ⟨_, rfl, h⟩
  | _, _, i + 1, _, .cons _ r, e => by
    obtain ⟨v, h1, h2⟩ := ImAll.getV (i := i) r (by simpa using e)
    exact ⟨v, by simpa using h1, h2⟩
theorem ImAll.app : ∀ {vs ws : List V} {ds es : List PyData}, ImAll K H vs ds → ImAll K H ws es → ImAll K H (vs ++ ws) (ds ++ es)
  | _, _, _, _, .nil, s => s
  | _, _, _, _, .cons h r, s => .cons h (ImAll.app r s)
theorem ImAll.take : ∀ {vs : List V} {ds : List PyData} (n : Nat), ImAll K H vs ds → ImAll K H (vs.take n) (ds.take n)
  | _, _, 0, _ => .nil
  | _, _, _ + 1, .nil => .nil
  | _, _, n + 1, .cons h r => .cons h (ImAll.take n r)
theorem ImAll.drop : ∀ {vs : List V} {ds : List PyData} (n : Nat), ImAll K H vs ds → ImAll K H (vs.drop n) (ds.drop n)
  | _, _, 0, r => r
  | _, _, _ + 1, .nil => .nil
  | _, _, n + 1, .cons _ r => ImAll.drop n r
theorem ImAll.ints : ∀ (l : List Int), ImAll K H (l.map V.int) (l.map PyData.int)
  | [] => .nil
  | i :: l => .cons (.int i) (ImAll.ints l)
theorem ImAll.ints_inv : ∀ {vs : List V} (l : List Int), ImAll K H vs (l.map PyData.int) → vs = l.map V.int
  | _, [], .nil => rfl
  | _, i :: l, .cons (.int _) r => congrArg (V.int i :: ·) (ImAll.ints_inv l r)
theorem Im.tupI {v : V} {ds : List PyData} (h : Im K H v (.tuple ds)) : ∃ a xs, v = .ref a ∧ SqT K H a xs ∧ ImAll K H xs ds := by
  cases h with
  | tup h r => exact ⟨_, _, rfl, h, r⟩
theorem Im.intI {v : V} {i : Int} (h : Im K H v (.int i)) : v = .int i := by cases h; rfl
theorem Im.blI {v : V} {b : Bool} (h : Im K H v (.bool b)) : v = .bl b := by cases h; rfl
theorem Im.strI {v : V} {x : Str} (h : Im K H v (.str x)) : v = .str x := by cases h; rfl
theorem Im.nonI {v : V} (h : Im K H v .none) : v = .non := by cases h; rfl
end
/-- a tuple of ints -/
def tI (l : List Int) : PyData := .tuple (l.map .int)
abbrev Pair := List Int × List Int
def pairD (p : Pair) : PyData := .tuple [tI p.1, tI p.2]
def pageD (g : Pair × List Int) : PyData := .tuple [pairD g.1, tI g.2]
section
variable {K : PySem.W.Frag} {H H1 : Hp}
theorem Im.ti {v : V} {l : List Int} (h : Im K H v (tI l)) : ∃ a, v = .ref a ∧ SqT K H a (l.map V.int) := by
  obtain ⟨a, xs, e, h1, h2⟩ := h.tupI
  rw [ImAll.ints_inv l h2] at h1
  exact ⟨a, e, h1⟩
theorem Im.ofTi {a : Addr} {l : List Int} (h : SqT K H a (l.map V.int)) : Im K H (.ref a) (tI l) := .tup h (ImAll.ints l)
theorem Im.pair {v : V} {p : Pair} (h : Im K H v (pairD p)) : ∃ a b c, v = .ref a ∧ SqT K H a [.ref b, .ref c] ∧ SqT K H b (p.1.map V.int) ∧ SqT K H c (p.2.map V.int) := by
  obtain ⟨a, xs, e, h1, h2⟩ := h.tupI
  cases h2 with
  | cons q r =>
    cases r with
    | cons q2 r2 =>
      cases r2
      obtain ⟨b, rfl, hb⟩ := q.ti
      obtain ⟨c, rfl, hc⟩ := q2.ti
      exact ⟨a, b, c, e, h1, hb, hc⟩
theorem Im.ofPair {a b c : Addr} {p : Pair} (h : SqT K H a [.ref b, .ref c]) (hb : SqT K H b (p.1.map V.int)) (hc : SqT K H c (p.2.map V.int)) : Im K H (.ref a) (pairD p) :=
  .tup h (.cons (.ofTi hb) (.cons (.ofTi hc) .nil))
theorem Im.page {v : V} {g : Pair × List Int} (h : Im K H v (pageD g)) : ∃ a x b, v = .ref a ∧ SqT K H a [x, .ref b] ∧ Im K H x (pairD g.1) ∧ SqT K H b (g.2.map V.int) := by
  obtain ⟨a, xs, e, h1, h2⟩ := h.tupI
  cases h2 with
  | cons q r =>
    cases r with
    | cons q2 r2 =>
      cases r2
      obtain ⟨b, rfl, hb⟩ := q2.ti
      exact ⟨a, _, b, e, h1, q, hb⟩
theorem Im.ofPage {a b : Addr} {x : V} {g : Pair × List Int} (h : SqT K H a [x, .ref b]) (hb : Im K H x (pairD g.1)) (hc : SqT K H b (g.2.map V.int)) : Im K H (.ref a) (pageD g) :=
  .tup h (.cons hb (.cons (.ofTi hc) .nil))
end
/-! ### what a pure def hands back -/
/-- a value with the data d -/
def Ret (K : PySem.W.Frag) (H : Hp) (Q : VK) (d : PyData) : Prop := ∀ v H', Kp [] H H' → Im K H' v d → Q v H'
/-- a value as it stands -/
def RetV (H : Hp) (Q : VK) (v : V) : Prop := ∀ H', Kp [] H H' → Q v H'
/-- a new list -/
def RetL (K : PySem.W.Frag) (H : Hp) (Q : VK) (ds : List PyData) : Prop := ∀ p H' xs, Kp [] H H' → H p = none → H' p = some (.lst xs) → ImAll K H' xs ds → Q (.ref p) H'
/-- a new list of ints -/
def RetI (H : Hp) (Q : VK) (l : List Int) : Prop := ∀ p H', Kp [] H H' → H p = none → H' p = some (.lst (l.map V.int)) → Q (.ref p) H'
/-- a new tuple of ints -/
def RetT (K : PySem.W.Frag) (H : Hp) (Q : VK) (l : List Int) : Prop := ∀ p H', Kp [] H H' → SqT K H' p (l.map V.int) → Q (.ref p) H'
section
variable {K : PySem.W.Frag} {H H1 : Hp} {Q : VK}
theorem Ret.kp {d : PyData} (r : Ret K H Q d) (k : Kp [] H H1) : Ret K H1 Q d := fun v H' k' h => r v H' (k.trans k') h
theorem RetV.kp {d : V} (r : RetV H Q d) (k : Kp [] H H1) : RetV H1 Q d := fun H' k' => r H' (k.trans k')
theorem RetV.to {u v : V} (r : RetV H Q v) (k : Kp [] H H1) (e : u = v) : Q u H1 := by rw [e]; exact r H1 k
theorem RetL.kp {d : List PyData} (r : RetL K H Q d) (k : Kp [] H H1) : RetL K H1 Q d := fun p H' xs k' n h => r p H' xs (k.trans k') (k.free n) h
theorem RetI.kp {d : List Int} (r : RetI H Q d) (k : Kp [] H H1) : RetI H1 Q d := fun p H' k' n h => r p H' (k.trans k') (k.free n) h
theorem RetT.kp {d : List Int} (r : RetT K H Q d) (k : Kp [] H H1) : RetT K H1 Q d := fun p H' k' h => r p H' (k.trans k') h
end
end TB
/-! the rules whose readings speak of the written part, told by K -/
namespace TB
open PySem PySem.Spec PyProof.Rows L2
section
variable {X : Cx} {K : PySem.W.Frag}
theorem ixT (h : X.K = K) : IxR X (rIxT K) := h ▸ ix_tup
theorem ixL (h : X.K = K) : IxR X (rIxL K) := h ▸ ix_list
theorem slT (h : X.K = K) : SlR X (rSlT K) := h ▸ sl_tup
theorem slL (h : X.K = K) : SlR X (rSlL K) := h ▸ sl_list
theorem clLen (h : X.K = K) : CallR X (.builtin "len") (fun xs H Q => ∃ p ys, xs = [.ref p] ∧ (SqL K H p ys ∨ SqT K H p ys) ∧ Q (.int ys.length) H) := h ▸ call_len_seq
theorem clIsi (h : X.K = K) : CallR X (.builtin "isinstance") (rIsi K) := h ▸ call_isi
theorem clIsiT (h : X.K = K) : CallR X (.builtin "isinstance") (rIsiT K) := h ▸ call_isiT
theorem clList (h : X.K = K) : CallR X (.type "list") (fun xs H Q => ∃ p ys, xs = [.ref p] ∧ (SqL K H p ys ∨ SqT K H p ys) ∧ ∀ l, H l = none → Q (.ref l) (upd H l (.lst ys))) := h ▸ call_list_of
theorem clTuple (h : X.K = K) : CallR X (.type "tuple") (fun xs H Q => ∃ p ys, xs = [.ref p] ∧ ((SqL K H p ys ∧ ∀ l, H l = none → Q (.ref l) (upd H l (.tup ys))) ∨ (SqT K H p ys ∧ Q (.ref p) H))) := h ▸ call_tuple_of
theorem opIn (h : X.K = K) : OpR X (compareOp .In) (rIn K false) := h ▸ op_in_seq
theorem opEqD (h : X.K = K) (hu : X.A.units + 64 < cLine) : OpR X (compareOp .Eq) (rEqD K) := h ▸ op_eqD hu
theorem opNeD (h : X.K = K) (hu : X.A.units + 64 < cLine) : OpR X (compareOp .NotEq) (rNeD K) := h ▸ op_neD hu
theorem pgT {pos : Pos} {es : List Expr} {k : Nat} {t : TGs} {n : Nat} (hK : X.K = K) (hc : X.calm = true) (h : PGs X es t) (hn : (assignEach es X.env).length = n := by rfl) (hst : (assignEach es X.env).findIdx? (·.1) = none := by rfl) : PG X (.Tuple es k pos) (gTup K n t) := hK ▸ pg_tup hc h hn hst
theorem piL {tg l : Expr} {tl : TE} (hK : X.K = K) (hl : PE X l tl) : PI X tg l (iList K tl) := hK ▸ pi_list hl
theorem piT {tg l : Expr} {tl : TE} (hK : X.K = K) (hl : PE X l tl) : PI X tg l (iTup K tl) := hK ▸ pi_tup hl
theorem opCatT (h : X.K = K) : OpR X (binaryOp .Add) (rCatT K) := h ▸ op_catT
end
end TB
/-! plain laws: divisors, the inverse, sums of two -/
namespace TB
theorem gcd_step {a b : Int} (ha : 0 ≤ a) (hb : 0 < b) : Int.gcd b (a % b) = Int.gcd a b := by
  rw [Int.gcd_comm a b]
  have h : a % b = a - b * (a / b) := by have := Int.emod_add_mul_ediv a b; omega
  rw [h, Int.mul_comm b (a / b), Int.gcd_sub_mul_right_right]
/-- the loop of inverse -/
structure Iv (a m l r n t : Int) : Prop where
  l0 : 0 ≤ l
  r0 : 0 < r
  lm : l ≤ m
  rm : r ≤ m
  g : Int.gcd l r = 1
  n : ∃ k, n * a = l + m * k
  t : ∃ k, t * a = r + m * k
theorem Iv.start {a m : Int} (ha : 0 ≤ a) (hm : 0 < m) (hg : Int.gcd a m = 1) : Iv a m (a % m) m 1 0 :=
  ⟨Int.emod_nonneg a (Int.ne_of_gt hm), hm, Int.le_of_lt (Int.emod_lt_of_pos a hm), Int.le_refl m, by rw [Int.gcd_comm, gcd_step ha hm, hg], ⟨a / m, by have := Int.emod_add_mul_ediv a m; omega⟩, ⟨-1, by rw [Int.mul_neg, Int.mul_one]; omega⟩⟩
theorem Iv.step {a m l r n t : Int} (h : Iv a m l r n t) (hl : 0 < l) : Iv a m (r - r / l * l) l (t - r / l * n) n := by
  obtain ⟨l0, r0, lm, rm, g, ⟨k1, h1⟩, ⟨k2, h2⟩⟩ := h
  have e : r - r / l * l = r % l := by have := Int.emod_add_mul_ediv r l; rw [Int.mul_comm l (r / l)] at this; omega
  refine ⟨by rw [e]; exact Int.emod_nonneg r (Int.ne_of_gt hl), hl, ?_, lm, ?_, ⟨k2 - r / l * k1, ?_⟩, ⟨k1, h1⟩⟩
  · have := Int.emod_lt_of_pos r hl
    omega
  · rw [e, Int.gcd_comm, gcd_step (Int.le_of_lt r0) hl, Int.gcd_comm]; exact g
  · rw [Int.sub_mul, h2, Int.mul_assoc, h1, Int.mul_add, Int.mul_sub, Int.mul_left_comm m]; omega
theorem Iv.last {a m l r n t : Int} (h : Iv a m l r n t) (hm : 0 < m) (hl : ¬ 0 < l) : ∃ k, (t % m) * a = 1 + m * k := by
  obtain ⟨l0, r0, lm, rm, g, ⟨k1, h1⟩, ⟨k2, h2⟩⟩ := h
  have e : l = 0 := by omega
  subst e
  rw [Int.gcd_zero_left] at g
  have r1 : r = 1 := by omega
  subst r1
  have e2 : t % m = t - m * (t / m) := by have := Int.emod_add_mul_ediv t m; omega
  refine ⟨k2 - (t / m) * a, ?_⟩
  rw [e2, Int.sub_mul, h2, Int.mul_sub, Int.mul_assoc]; omega
theorem Iv.small {a m l r n t : Int} (h : Iv a m l r n t) (hl : 0 < l) (hm : m ≤ 1000000000000) : 0 ≤ r / l ∧ r / l < 2 ^ 64 ∧ l.natAbs < 2 ^ 40 := by
  obtain ⟨l0, r0, lm, rm, g, _, _⟩ := h
  have h1 : r / l ≤ r := Int.ediv_le_self l (Int.le_of_lt r0)
  have h2 : 0 ≤ r / l := Int.ediv_nonneg (Int.le_of_lt r0) l0
  omega
/-- what least_times tells -/
theorem times_ok {a b s t i : Int} (ha : 0 < a) (hb : 0 < b) (hs : s % (Int.gcd a b : Int) = 0) (hi : ∃ k, i * (a / (Int.gcd a b : Int)) = 1 + (b / (Int.gcd a b : Int)) * k)
    (ht : t = s / (Int.gcd a b : Int) * i % (b / (Int.gcd a b : Int))) : 0 ≤ t ∧ t < b / (Int.gcd a b : Int) ∧ ∃ k, a * t = s + b * k := by
  obtain ⟨k, hk⟩ := hi
  have hg : 0 < (Int.gcd a b : Int) := by
    have : 0 < Int.gcd a b := Int.gcd_pos_iff.mpr (.inl (by omega))
    omega
  generalize hG : (Int.gcd a b : Int) = g at *
  have da : g ∣ a := hG ▸ Int.gcd_dvd_left a b
  have db : g ∣ b := hG ▸ Int.gcd_dvd_right a b
  obtain ⟨a', rfl⟩ := da
  obtain ⟨b', rfl⟩ := db
  obtain ⟨s', rfl⟩ := Int.dvd_of_emod_eq_zero hs
  have ne : g ≠ 0 := by omega
  rw [Int.mul_ediv_cancel_left _ ne] at hk ht
  rw [Int.mul_ediv_cancel_left _ ne] at ht hk
  rw [Int.mul_ediv_cancel_left _ ne]
  have hb' : 0 < b' := by
    rcases Int.lt_trichotomy b' 0 with h | h | h
    · have := Int.mul_neg_of_pos_of_neg hg h; omega
    · subst h; simp at hb
    · exact h
  have e2 : t = s' * i - b' * (s' * i / b') := by rw [ht]; have := Int.emod_add_mul_ediv (s' * i) b'; omega
  refine ⟨by rw [ht]; exact Int.emod_nonneg _ (Int.ne_of_gt hb'), by rw [ht]; exact Int.emod_lt_of_pos _ hb', s' * k - a' * (s' * i / b'), ?_⟩
  generalize s' * i / b' = q at e2
  rw [e2]
  have h1 : g * a' * (s' * i - b' * q) = g * s' * (i * a') - g * b' * (a' * q) := by
    rw [Int.mul_sub]; congr 1
    · simp only [Int.mul_comm, Int.mul_left_comm, Int.mul_assoc]
    · simp only [Int.mul_comm, Int.mul_left_comm, Int.mul_assoc]
  rw [h1, hk, Int.mul_add, Int.mul_one, Int.mul_sub]
  have h2 : g * s' * (b' * k) = g * b' * (s' * k) := by simp only [Int.mul_comm, Int.mul_left_comm, Int.mul_assoc]
  rw [h2]; omega
theorem gcd_nn (a b : Int) : (0 : Int) ≤ (Int.gcd a b : Int) := by omega
theorem gcd_pos' {a b : Int} (ha : 0 < a) : (0 : Int) < (Int.gcd a b : Int) := by
  have : 0 < Int.gcd a b := Int.gcd_pos_iff.mpr (.inl (by omega))
  omega
theorem gcd_le' {a b : Int} (ha : 0 < a) : (Int.gcd a b : Int) ≤ a := Int.gcd_le_left b ha
theorem cop_dvd {a b n : Int} (h : Int.gcd a b = 1) (d : b ∣ a * n) : b ∣ n := by
  have h1 : Nat.Coprime b.natAbs a.natAbs := by rw [Nat.coprime_comm]; exact h
  have h2 : b.natAbs ∣ a.natAbs * n.natAbs := by rw [← Int.natAbs_mul]; exact Int.natAbs_dvd_natAbs.mpr d
  exact Int.natAbs_dvd_natAbs.mp (h1.dvd_of_dvd_mul_left h2)
theorem times_one {a b s t u : Int} (ha : 0 < a) (hb : 0 < b) (t0 : 0 ≤ t) (t1 : t < b / (Int.gcd a b : Int)) (u0 : 0 ≤ u) (u1 : u < b / (Int.gcd a b : Int)) (ht : ∃ k, a * t = s + b * k) (hu : ∃ k, a * u = s + b * k) : t = u := by
  obtain ⟨k, hk⟩ := ht
  obtain ⟨l, hl⟩ := hu
  have hg := gcd_pos' (b := b) ha
  have hc : Int.gcd (a / (Int.gcd a b : Int)) (b / (Int.gcd a b : Int)) = 1 := Int.gcd_ediv_gcd_ediv_gcd (by omega)
  generalize hG : (Int.gcd a b : Int) = g at *
  have da : g ∣ a := hG ▸ Int.gcd_dvd_left a b
  have db : g ∣ b := hG ▸ Int.gcd_dvd_right a b
  clear hG
  obtain ⟨a', rfl⟩ := da
  obtain ⟨b', rfl⟩ := db
  have ne : g ≠ 0 := by omega
  rw [Int.mul_ediv_cancel_left _ ne] at t1 u1 hc
  rw [Int.mul_ediv_cancel_left _ ne] at hc
  have e : g * (a' * (t - u)) = g * (b' * (k - l)) := by
    rw [Int.mul_sub, Int.mul_sub, Int.mul_sub, Int.mul_sub, ← Int.mul_assoc, ← Int.mul_assoc, ← Int.mul_assoc, ← Int.mul_assoc]; omega
  have e2 : a' * (t - u) = b' * (k - l) := Int.eq_of_mul_eq_mul_left ne e
  obtain ⟨q, hq⟩ := cop_dvd (n := t - u) hc ⟨k - l, e2⟩
  have hb' : 0 < b' := by omega
  have q0 : q = 0 := by
    rcases Int.lt_trichotomy q 0 with h | h | h
    · have : b' * q ≤ b' * (-1) := Int.mul_le_mul_of_nonneg_left (by omega) (by omega)
      omega
    · exact h
    · have : b' * 1 ≤ b' * q := Int.mul_le_mul_of_nonneg_left (by omega) (by omega)
      omega
  subst q0
  omega
theorem times_le {a b s t k : Int} (ha : 0 < a) (hb : 0 < b) (t0 : 0 ≤ t) (t1 : t < b / (Int.gcd a b : Int)) (ht : ∃ k, a * t = s + b * k) (hk : 0 ≤ k) (h : ∃ m, a * k = s + b * m) : t ≤ k := by
  obtain ⟨m, hm⟩ := h
  have hg := gcd_pos' (b := b) ha
  have da := Int.gcd_dvd_left a b
  have db := Int.gcd_dvd_right a b
  have hbg : 0 < b / (Int.gcd a b : Int) := Int.ediv_pos_of_pos_of_dvd hb (Int.le_of_lt hg) db
  have e1 := Int.emod_add_mul_ediv k (b / (Int.gcd a b : Int))
  have h0 := Int.emod_nonneg k (Int.ne_of_gt hbg)
  have h1 := Int.emod_lt_of_pos k hbg
  have h2 : 0 ≤ k / (b / (Int.gcd a b : Int)) := Int.ediv_nonneg hk (Int.le_of_lt hbg)
  have h3 := Int.mul_nonneg (Int.le_of_lt hbg) h2
  obtain ⟨a', ea⟩ := da
  have eb := Int.ediv_mul_cancel db
  have e : t = k % (b / (Int.gcd a b : Int)) := by
    refine times_one ha hb t0 t1 h0 h1 ht ⟨m - a' * (k / (b / (Int.gcd a b : Int))), ?_⟩
    generalize hq : k / (b / (Int.gcd a b : Int)) = q at *
    generalize hr : k % (b / (Int.gcd a b : Int)) = r at *
    generalize hc : b / (Int.gcd a b : Int) = c at *
    generalize (Int.gcd a b : Int) = g at *
    have e2 : a * k = a * r + b * (a' * q) := by
      rw [← e1, Int.mul_add]
      congr 1
      rw [← eb, ea]
      simp only [Int.mul_comm, Int.mul_left_comm, Int.mul_assoc]
    rw [Int.mul_sub]; omega
  omega
end TB
/-! enumerate of a tuple: its making walked here, its turns by the library's GoesN.enumFrom over Draws.tuple -/
namespace TB
open PySem PySem.Spec PyProof.Rows L2
/-- what enumerate lays: an iterator over the tuple at a, and itself behind it -/
abbrev enIt (a : Addr) : Obj := { cls := .type "tuple_iterator", data := .fields #[.ref a, .int 0 0] }
abbrev enOb (it : Addr) : Obj := { cls := .type "enumerate", data := .fields #[.none, .bool false, .ref it, rawInt 0, .none, .none] }
abbrev enHp (a : Addr) (h : Heap) : Heap := (h.push (enIt a)).push (enOb h.objs.size)
theorem enNew (a : Addr) (vals : Array Value) : Meets (Builtin.«enumerate.__new__» ⟨[.type "enumerate", .ref a], []⟩) (fun _ R s => s.heap.IsTuple a vals ∧ R (.ok (.ret (.ref (s.heap.push (enIt a)).objs.size))) { s with heap := enHp a s.heap }) :=
  .of_wp fun P wd A R s ⟨tup, goal⟩ => by
    have same := sub_enumerate
    cases s
    wp_walk using wpAny_pyIter_tuple tup
    refine wpAny_stack_any fun _ => wpAny_pure ?_
    split <;> (try (rename_i cl _ _ _ _ _; cases (cl == Value.type "enumerate"))) <;> (wp_walk using wpAny_pyIter_tuple tup; exact ⟨_, rfl, goal⟩)
theorem enCall {P : Program} {wd : World} {A : Around} {E : Value → Shared → Prop} {s : Shared} {a : Addr} {vals : Array Value} {Q : Value → Shared → Prop} (tup : s.heap.IsTuple a vals) (goal : Q (.ref (s.heap.objs.size + 1)) { s with heap := enHp a s.heap }) : wpAny (model P wd) A (call (.type "enumerate") [.ref a]) Q E s := by
  have two : (s.heap.push (enIt a)).objs.size = s.heap.objs.size + 1 := Heap.size_push ..
  refine callType_new F.called_enumerate (by decide) (F.typeCall_enumerate_1 _) (F.newCall_enumerate_1 _) (F.args_object_init_2 · _) F.entry_enumerate_new (enNew a vals) ⟨tup, ?_⟩
  exact ⟨⟨_, Heap.get?_push_size _ rfl, rfl⟩, two ▸ goal⟩
/-- the tuple at a, each item in a new pair with its number -/
def ItE (K : PySem.W.Frag) (a : Addr) : It where
  go i H := ∃ (xs : List V) (x : V), SqT K H a xs ∧ xs[i]? = some x
  yld i H v H' := ∃ p x, v = .ref p ∧ H p = none ∧ H' = upd H p (.tup [.int (i : Nat), x]) ∧ ∀ xs, SqT K H a xs → xs[i]? = some x
  stop i H := ∃ xs : List V, SqT K H a xs ∧ i = xs.length
/-- the enumerate at en over its iterator at it, i items gone by -/
structure EnAt (a en it : Addr) (i : Nat) (h : Heap) : Prop where
  en : ∃ was, IsEnum h en it (0 + (i : Nat)) was
  it : h.IsTupleIter it a i
theorem EnAt.walks {P : Program} {wd : World} {A : Around} {elts : List Expr} {kk : Nat} {tpos : Pos} {a en it : Addr} (hh : A.in1.handled = none) (vals : Array Value) (n1 : a ≠ it) (n2 : a ≠ en) (n3 : en ≠ it) :
    GoesN P wd A (.Tuple elts kk tpos) en [en, it, a] [en, it] vals.size (fun i h0 v h => ∃ p t x, v = .ref p ∧ h0.objs.size ≤ p ∧ vals[i]? = some x ∧ h.IsTuple p #[.int (0 + (i : Int)) t, x]) (fun i h => (∃ was, IsEnum h en it (0 + (i : Int)) was) ∧ h.IsTupleIter it a i ∧ h.IsTuple a vals) :=
  GoesN.enumFrom 0 (Draws.tuple (A := A.in1) hh it a n1 vals) en n3 (by simp [n3, n2.symm]) (by simp)
theorem turnE {P : Program} {wd : World} {K : PySem.W.Frag} {elts : List Expr} {kk : Nat} {tpos : Pos} {a en it : Addr} (n1 : a ≠ it) (n2 : a ≠ en) (n3 : en ≠ it) : Turn P wd K (.Tuple elts kk tpos) (ItE K a) [en, it] en (EnAt a en it) where
  mem := List.mem_cons_self
  obj i h at_ b mem := by
    obtain ⟨_, ge⟩ := at_.en
    obtain ⟨oi, gi, _, di⟩ := at_.it
    rcases List.mem_cons.mp mem with e | mem
    · exact e ▸ ⟨_, ge, fun _ => nofun⟩
    · exact List.mem_singleton.mp mem ▸ ⟨oi, gi, fun _ z => nomatch di.symm.trans z⟩
  keep i h h2 at_ k := ⟨at_.en.imp fun _ => k en (by simp) _, at_.it.at fun o => k it (by simp) o⟩
  item := by
    intro X eP eW eK calm i pins s τ H E Nv fp at_ here
    obtain ⟨xs, x, sq, ix⟩ := here
    subst eP eW eK
    obtain ⟨vals, rel, tup, _⟩ := Nv.tuple sq
    obtain ⟨u, iu, ru⟩ := rel.get ix
    have iu' : vals.toArray[i]? = some u := by simpa using iu
    refine (EnAt.walks (Nv.ok.hd calm) vals.toArray n1 n2 n3).goes i s _ _ (Array.getElem?_eq_some_iff.mp iu').1 ⟨at_.en, at_.it, tup⟩ fun v h2 tk y st k _ => ?_
    obtain ⟨p, t, z, rfl, new, iz, isT⟩ := y
    obtain rfl : z = u := Option.some.inj (iz.symm.trans iu')
    have num : (0 : Int) + (i : Nat) = (i : Nat) := Int.zero_add _
    have ob : ObjOk X.prog X.w (upd H p (.tup [.int (i : Nat), x])) h2 p (.tup [.int (i : Nat), x]) := ⟨(by decide : 2 ≤ sizeLine), [.int (0 + (i : Nat)) t, z], .cons ⟨t, by rw [num]⟩ (.cons ru .nil), isT⟩
    have old : ∀ b ∈ [en, it], b ≠ p := fun b mem e => by
      have lt : b < s.heap.objs.size := by
        obtain ⟨_, ge⟩ := at_.en
        obtain ⟨_, gi, _⟩ := at_.it
        rcases List.mem_cons.mp mem with e | mem
        · exact e ▸ Heap.lt_size ge
        · exact List.mem_singleton.mp mem ▸ Heap.lt_size gi
      exact Nat.not_lt.mpr new (e ▸ lt)
    exact ⟨.ref p, _, Nv.turnedNew k fp new ob, rfl, ⟨p, x, rfl, Nv.hok.fresh new, rfl, fun ys hy => Nv.tuple_inj hy sq ▸ ix⟩, ⟨st.1, st.2.1⟩, fun b mem => (upd_ne (old b mem)).trans (fp b mem).1⟩
  done := by
    intro X eP eW eK calm i pins s τ H E Nv fp at_ here
    obtain ⟨xs, sq, last⟩ := here
    subst eP eW eK last
    obtain ⟨vals, rel, tup, _⟩ := Nv.tuple sq
    have n : vals.toArray.size = xs.length := by rw [List.size_toArray]; exact rel.length.symm
    exact (EnAt.walks (elts := elts) (kk := kk) (tpos := tpos) (Nv.ok.hd calm) vals.toArray n1 n2 n3).stops s _ _ (n ▸ ⟨at_.en, at_.it, tup⟩) fun h2 tk k _ => Nv.turnedL k fp
  self A i s Q E at_ goal := at_.en.elim fun _ ge => wpAny_pyIter_enum ge goal
def iEnT (K : PySem.W.Frag) (ta : TA) : TI := fun τ H R => ta τ H fun vz H1 => ∃ a xs, vz = [.ref a] ∧ SqT K H1 a xs ∧ R (ItE K a) H1
theorem piE {X : Cx} {K : PySem.W.Frag} {src : Expr} {ta : TA} {p pos tpos : Pos} {elts : List Expr} {kk : Nat} (eK : X.K = K) (gl : Gl X "enumerate") (no : X.mg "enumerate" = none) (ha : PA X [src] ta) (one : starEach [src] X.env = [(false, eval src X.env)] := by rfl) :
    PI X (.Tuple elts kk tpos) (.Call (.Name "enumerate" p) [src] [] pos) (iEnT K ta) where
  run pins s τ H R Nv h := by
    subst eK
    refine Call_ (ld_blt Nv gl no boot_enumerate (PyProof.Rows.callWith_type1 (thn (ha.run pos pins s τ H _ Nv h) fun us s1 got => ?_) one rfl))
    obtain ⟨vs, H1, Nv1, rel, a, xs, rfl, sq, r⟩ := got
    obtain rfl := Vals.ref1 rel
    obtain ⟨vals, _, tup, _⟩ := Nv1.tuple sq
    have lt := tup.lt
    have k1 : ∀ b o, s1.heap.get? b = some o → (s1.heap.push (enIt a)).get? b = some o := fun _ _ => Heap.get?_push_of_some _
    have ge : (enHp a s1.heap).get? (s1.heap.objs.size + 1) = some (enOb s1.heap.objs.size) := by
      have z := Heap.get?_push_size (s1.heap.push (enIt a)) (o := enOb s1.heap.objs.size) rfl
      rwa [Heap.size_push] at z
    refine enCall tup (wpAny_pyIter_enum ge ⟨_, [s1.heap.objs.size + 1, s1.heap.objs.size], _, _, H1, rfl, Nv1.kept (t' := s1.toks) fun b o z => Heap.get?_push_of_some _ (k1 b o z),
      turnE (Nat.ne_of_lt lt) (Nat.ne_of_lt (Nat.lt_succ_of_lt lt)) (Nat.succ_ne_self _), ⟨⟨.none, ge⟩, _, Heap.get?_push_of_some _ (Heap.get?_push_size _ rfl), rfl, rfl⟩, fun b mem => ?_, r⟩)
    have up : s1.heap.objs.size ≤ b := by
      rcases List.mem_cons.mp mem with e | mem
      · exact e ▸ Nat.le_succ _
      · exact List.mem_singleton.mp mem ▸ Nat.le_refl _
    exact Nv1.fpOk up (Nv1.hok.fresh up)
theorem walk_enT {K : PySem.W.Frag} {a : Addr} {xs : List V} : Walk (ItE K a) xs.length (fun H => SqT K H a xs) (YPair (fun i => some (.int (i : Nat))) (fun i => xs[i]?)) where
  goes i H lt sq := ⟨xs, xs[i], sq, by simp [lt]⟩
  stops H sq := ⟨xs, sq, rfl⟩
  yields i H v H' _ sq y := by
    obtain ⟨p, x, e1, e2, e3, e4⟩ := y
    exact ⟨p, _, x, e1, e2, e3, rfl, e4 xs sq⟩
end TB
/-! what a reading evaluates to, as data that never changes -/
namespace TB
open PySem PySem.Spec PyProof.Rows L2
theorem ixN_ofNat (n j : Nat) (h : j < n) : ixN n (j : Int) = some j := by
  unfold ixN
  rw [if_pos (by omega), if_pos (by omega)]; simp
theorem imAtI {K : PySem.W.Frag} {H : Hp} {xs : List V} {ds : List PyData} {i : Int} {d : PyData} (h : ImAll K H xs ds) (e : atI ds i = some d) : ∃ v, atI xs i = some v ∧ Im K H v d := by
  unfold atI at e ⊢
  rw [h.len]
  cases hj : ixN ds.length i with
  | none => rw [hj] at e; cases e
  | some j =>
    rw [hj] at e
    obtain ⟨v, h1, h2⟩ := h.get (i := j) e
    exact ⟨v, h1, h2⟩
section
variable {K : PySem.W.Frag} {σ : L2.St} {H H1 H2 : Hp} {ta tb te tx : TE} {t u : TT} {d e : PyData} {ds es : List PyData}
def DE (K : PySem.W.Frag) (te : TE) (σ : L2.St) (H : Hp) (d : PyData) : Prop := ∀ H1, Kp [] H H1 → ∀ Q : VK, (∀ v H2, Kp [] H1 H2 → Im K H2 v d → Q v H2) → te σ H1 Q
def DA (K : PySem.W.Frag) (ta : TA) (σ : L2.St) (H : Hp) (ds : List PyData) : Prop := ∀ H1, Kp [] H H1 → ∀ Q : List V → Hp → Prop, (∀ vs H2, Kp [] H1 H2 → ImAll K H2 vs ds → Q vs H2) → ta σ H1 Q
def DT (tt : TT) (σ : L2.St) (H : Hp) (b : Bool) : Prop := ∀ H1, Kp [] H H1 → ∀ Q : Bool → Hp → Prop, (∀ H2, Kp [] H1 H2 → Q b H2) → tt σ H1 Q
/-- a new list of such data -/
def DL (K : PySem.W.Frag) (te : TE) (σ : L2.St) (H : Hp) (ds : List PyData) : Prop := ∀ H1, Kp [] H H1 → ∀ Q : VK, (∀ p H2 xs, Kp [] H1 H2 → H1 p = none → H2 p = some (.lst xs) → ImAll K H2 xs ds → Q (.ref p) H2) → te σ H1 Q
/-- a part of a slice -/
def DO (to : TO) (σ : L2.St) (H : Hp) (o : Option Int) : Prop := ∀ H1, Kp [] H H1 → ∀ Q : Option Int → Hp → Prop, (∀ H2, Kp [] H1 H2 → Q o H2) → to σ H1 Q
theorem DE.kp (k : Kp [] H H1) (h : DE K te σ H d) : DE K te σ H1 d := fun H2 k2 => h H2 (k.trans k2)
theorem DT.kp {b : Bool} (k : Kp [] H H1) (h : DT t σ H b) : DT t σ H1 b := fun H2 k2 => h H2 (k.trans k2)
theorem DL.kp (k : Kp [] H H1) (h : DL K te σ H ds) : DL K te σ H1 ds := fun H2 k2 => h H2 (k.trans k2)
theorem DA.kp {ta : TA} (k : Kp [] H H1) (h : DA K ta σ H ds) : DA K ta σ H1 ds := fun H2 k2 => h H2 (k.trans k2)
theorem DE.is (h : DE K te σ H d) (q : d = e) : DE K te σ H e := q ▸ h
theorem DT.is {b c : Bool} (h : DT t σ H b) (q : b = c) : DT t σ H c := q ▸ h
theorem DL.is (h : DL K te σ H ds) (q : ds = es) : DL K te σ H es := q ▸ h
theorem dv {i : Nat} {v : V} (h : σ[i]? = some (some v)) (hv : Im K H v d) : DE K (tVar i) σ H d := fun H1 k Q q => ⟨v, h, q v H1 .refl (hv.kp k)⟩
theorem dint {i : Int} : DE K (tC (.int i)) σ H (.int i) := fun H1 k Q q => q _ H1 .refl (.int i)
theorem dbl {i : Bool} : DE K (tC (.bl i)) σ H (.bool i) := fun H1 k Q q => q _ H1 .refl (.bl i)
theorem dstr {i : Str} : DE K (tC (.str i)) σ H (.str i) := fun H1 k Q q => q _ H1 .refl (.str i)
theorem dnon : DE K (tC .non) σ H .none := fun H1 k Q q => q _ H1 .refl .non
theorem dI {C : Int → Int → Prop} {g : Int → Int → Int} {i j : Int} (ha : DE K ta σ H (.int i)) (hb : DE K tb σ H (.int j)) (hc : C i j) : DE K (tOp (rI C fun i j => .int (g i j)) ta tb) σ H (.int (g i j)) := fun H1 k Q q =>
  ha H1 k _ fun v H2 k2 h2 => hb H2 (k.trans k2) _ fun w H3 k3 h3 => by
    have e1 := h2.intI
    have e2 := h3.intI
    subst e1; subst e2
    exact ⟨i, j, rfl, rfl, hc, q _ H3 (k2.trans k3) (.int _)⟩
theorem dI0 {g : Int → Int → Int} {i j : Int} (ha : DE K ta σ H (.int i)) (hb : DE K tb σ H (.int j)) : DE K (tOp (rI0 fun i j => .int (g i j)) ta tb) σ H (.int (g i j)) := fun H1 k Q q =>
  ha H1 k _ fun v H2 k2 h2 => hb H2 (k.trans k2) _ fun w H3 k3 h3 => by
    have e1 := h2.intI
    have e2 := h3.intI
    subst e1; subst e2
    exact ⟨i, j, rfl, rfl, q _ H3 (k2.trans k3) (.int _)⟩
theorem dB0 {g : Int → Int → Bool} {i j : Int} (ha : DE K ta σ H (.int i)) (hb : DE K tb σ H (.int j)) : DE K (tOp (rI0 fun i j => .bl (g i j)) ta tb) σ H (.bool (g i j)) := fun H1 k Q q =>
  ha H1 k _ fun v H2 k2 h2 => hb H2 (k.trans k2) _ fun w H3 k3 h3 => by
    have e1 := h2.intI
    have e2 := h3.intI
    subst e1; subst e2
    exact ⟨i, j, rfl, rfl, q _ H3 (k2.trans k3) (.bl _)⟩
theorem dneg {i : Int} (ha : DE K ta σ H (.int i)) : DE K (tUn (rU fun i => .int (-i)) ta) σ H (.int (-i)) := fun H1 k Q q =>
  ha H1 k _ fun v H2 k2 h2 => by
    have e1 := h2.intI
    subst e1
    exact ⟨i, rfl, q _ H2 k2 (.int _)⟩
/-- scalars as values -/
def scV : PyData → Option V
  | .none => some .non
  | .bool b => some (.bl b)
  | .int i => some (.int i)
  | .str s => some (.str s)
  | _ => none
theorem Im.sc {v : V} {x : V} (h : Im K H v d) (s : scV d = some x) : v = x := by
  cases h <;> simp [scV] at s <;> exact s
theorem deq {x y : V} (ha : DE K ta σ H d) (hb : DE K tb σ H e) (hx : scV d = some x) (hy : scV e = some y) (hs : scal x y = true) : DE K (tOp rEq ta tb) σ H (.bool (decide (x = y))) := fun H1 k Q q =>
  ha H1 k _ fun v H2 k2 h2 => hb H2 (k.trans k2) _ fun w H3 k3 h3 => by
    have e1 := h2.sc hx
    have e2 := h3.sc hy
    subst e1; subst e2
    exact ⟨hs, q _ H3 (k2.trans k3) (.bl _)⟩
theorem dne {x y : V} (ha : DE K ta σ H d) (hb : DE K tb σ H e) (hx : scV d = some x) (hy : scV e = some y) (hs : scal x y = true) : DE K (tOp rNe ta tb) σ H (.bool (!decide (x = y))) := fun H1 k Q q =>
  ha H1 k _ fun v H2 k2 h2 => hb H2 (k.trans k2) _ fun w H3 k3 h3 => by
    have e1 := h2.sc hx
    have e2 := h3.sc hy
    subst e1; subst e2
    exact ⟨hs, q _ H3 (k2.trans k3) (.bl _)⟩
theorem vint {i j : Int} : decide (V.int i = V.int j) = decide (i = j) := by simp
theorem vstr {i j : Str} : decide (V.str i = V.str j) = decide (i = j) := by simp
/-- t[i] -/
theorem dix {i : Int} (ha : DE K ta σ H (.tuple ds)) (hb : DE K tb σ H (.int i)) (hi : atI ds i = some d) : DE K (tOp (rIxT K) ta tb) σ H d := fun H1 k Q q =>
  ha H1 k _ fun v H2 k2 h2 => hb H2 (k.trans k2) _ fun w H3 k3 h3 => by
    have e2 := h3.intI
    subst e2
    obtain ⟨a, xs, rfl, h4, h5⟩ := (h2.kp k3).tupI
    obtain ⟨v, h6, h7⟩ := imAtI h5 hi
    exact ⟨a, xs, i, v, rfl, rfl, h4, h6, q _ H3 (k2.trans k3) h7⟩
theorem dlen (ha : DE K ta σ H (.tuple ds)) : DE K (tCB (fun xs H Q => ∃ p ys, xs = [.ref p] ∧ (SqL K H p ys ∨ SqT K H p ys) ∧ Q (.int ys.length) H) (tCons ta tNil)) σ H (.int (ds.length : Int)) := fun H1 k Q q =>
  ha H1 k _ fun v H2 k2 h2 => by
    obtain ⟨a, xs, rfl, h4, h5⟩ := h2.tupI
    exact ⟨a, xs, rfl, .inr h4, q _ H2 k2 (by rw [h5.len]; exact .int _)⟩
theorem dlenL {ds : List PyData} (ha : DL K ta σ H ds) : DE K (tCB (fun xs H Q => ∃ p ys, xs = [.ref p] ∧ (SqL K H p ys ∨ SqT K H p ys) ∧ Q (.int ys.length) H) (tCons ta tNil)) σ H (.int (ds.length : Int)) := fun H1 k Q q =>
  ha H1 k _ fun p H2 xs k2 hn h2 h3 => ⟨p, xs, rfl, .inl (.of h2), q _ H2 k2 (by rw [h3.len]; exact .int _)⟩
theorem danil : DA K tNil σ H [] := fun H1 k Q q => q [] H1 .refl .nil
theorem dacons {tr : TA} (ha : DE K ta σ H d) (hr : DA K tr σ H ds) : DA K (tCons ta tr) σ H (d :: ds) := fun H1 k Q q =>
  ha H1 k _ fun v H2 k2 h2 => hr H2 (k.trans k2) _ fun vs H3 k3 h3 => q (v :: vs) H3 (k2.trans k3) (.cons (h2.kp k3) h3)
theorem dtup {ta : TA} (ha : DA K ta σ H ds) (hl : ds.length ≤ 100000 := by simp) : DE K (tTup ta) σ H (.tuple ds) := fun H1 k Q q =>
  ha H1 k _ fun vs H2 k2 h2 => ⟨by rw [h2.len]; exact Evl.sz_of hl, fun p np => q _ _ (k2.trans (.new np)) (.tup (.of upd_same) (h2.kp (l := []) (.new np)))⟩
theorem dlst {ta : TA} (ha : DA K ta σ H ds) (hl : ds.length ≤ 100000 := by simp) : DL K (tLst ta) σ H ds := fun H1 k Q q =>
  ha H1 k _ fun vs H2 k2 h2 => ⟨by rw [h2.len]; exact Evl.sz_of hl, fun p np => q _ _ vs (k2.trans (.new np)) (k2.free np) upd_same (h2.kp (l := []) (.new np))⟩
/-- a call of a def that only makes new things -/
theorem dcall {sp : Sp} {dvs : List V} {E : XK} {ta : TA} (ha : DA K ta σ H ds) (hs : ∀ vs H1, Kp [] H H1 → ImAll K H1 vs ds → ∀ Q, Ret K H1 Q d → sp (vs ++ dvs) H1 Q E) : DE K (tCall sp dvs E ta) σ H d := fun H1 k Q q =>
  ha H1 k _ fun vs H2 k2 h2 => hs vs H2 (k.trans k2) h2 _ fun v H3 k3 h3 => q v H3 (k2.trans k3) h3
theorem dcallL {sp : Sp} {dvs : List V} {E : XK} {ta : TA} (ha : DA K ta σ H ds) (hs : ∀ vs H1, Kp [] H H1 → ImAll K H1 vs ds → ∀ Q, RetL K H1 Q es → sp (vs ++ dvs) H1 Q E) : DL K (tCall sp dvs E ta) σ H es := fun H1 k Q q =>
  ha H1 k _ fun vs H2 k2 h2 => hs vs H2 (k.trans k2) h2 _ fun p H3 xs k3 hn h3 h4 => q p H3 xs (k2.trans k3) (k2.free hn) h3 h4
/-- tuple(a new list), of a tuple itself -/
theorem dtupOf (ha : DL K ta σ H ds) : DE K (tCB (fun xs H Q => ∃ p ys, xs = [.ref p] ∧ ((SqL K H p ys ∧ ∀ l, H l = none → Q (.ref l) (upd H l (.tup ys))) ∨ (SqT K H p ys ∧ Q (.ref p) H))) (tCons ta tNil)) σ H (.tuple ds) := fun H1 k Q q =>
  ha H1 k _ fun p H2 xs k2 hn h2 h3 => ⟨p, xs, rfl, .inl ⟨.of h2, fun l nl => q _ _ (k2.trans (.new nl)) (.tup (.of upd_same) (h3.kp (l := []) (.new nl)))⟩⟩
/-! tests -/
theorem dtv {b : Bool} (h : DE K te σ H (.bool b)) : DT (tTest te) σ H b := fun H1 k Q q => h H1 k _ fun v H2 k2 h2 => ⟨b, h2.blI, q H2 k2⟩
theorem dtB {b : Bool} (h : DE K te σ H (.bool b)) : DT (tB te) σ H b := fun H1 k Q q => h H1 k _ fun v H2 k2 h2 => ⟨b, h2.blI, q H2 k2⟩
theorem dtand {a b : Bool} (h1 : DT t σ H a) (h2 : a = true → DT u σ H b) : DT (tAnd t u) σ H (a && b) := fun H1 k Q q =>
  h1 H1 k _ fun H2 k2 => by
    cases a with
    | true => exact h2 rfl H2 (k.trans k2) _ fun H3 k3 => q H3 (k2.trans k3)
    | false => exact q H2 k2
theorem dtor {a b : Bool} (h1 : DT t σ H a) (h2 : a = false → DT u σ H b) : DT (tOr t u) σ H (a || b) := fun H1 k Q q =>
  h1 H1 k _ fun H2 k2 => by
    cases a with
    | false => exact h2 rfl H2 (k.trans k2) _ fun H3 k3 => q H3 (k2.trans k3)
    | true => exact q H2 k2
theorem dtnot {a : Bool} (h1 : DT t σ H a) : DT (tNot t) σ H (!a) := fun H1 k Q q => h1 H1 k _ fun H2 k2 => q H2 k2
theorem dand {a b : Bool} (h1 : DE K ta σ H (.bool a)) (h2 : a = true → DE K tb σ H (.bool b)) : DE K (tAndV ta tb) σ H (.bool (a && b)) := fun H1 k Q q =>
  h1 H1 k _ fun v H2 k2 hv => by
    refine ⟨a, hv.blI, ?_⟩
    cases a with
    | true => exact h2 rfl H2 (k.trans k2) _ fun w H3 k3 => q w H3 (k2.trans k3)
    | false => exact q _ H2 k2 (.bl _)
theorem dor {a b : Bool} (h1 : DE K ta σ H (.bool a)) (h2 : a = false → DE K tb σ H (.bool b)) : DE K (tOrV ta tb) σ H (.bool (a || b)) := fun H1 k Q q =>
  h1 H1 k _ fun v H2 k2 hv => by
    refine ⟨a, hv.blI, ?_⟩
    cases a with
    | false => exact h2 rfl H2 (k.trans k2) _ fun w H3 k3 => q w H3 (k2.trans k3)
    | true => exact q _ H2 k2 (.bl _)
theorem dnot {a : Bool} (h1 : DE K ta σ H (.bool a)) : DE K (tNotV ta) σ H (.bool (!a)) := fun H1 k Q q => h1 H1 k _ fun v H2 k2 hv => ⟨a, hv.blI, q _ H2 k2 (.bl _)⟩
theorem dif {b : Bool} (h : DT t σ H b) (h1 : b = true → DE K ta σ H d) (h2 : b = false → DE K tb σ H d) : DE K (tIf t ta tb) σ H d := fun H1 k Q q =>
  h H1 k _ fun H2 k2 => by
    cases b with
    | true => exact h1 rfl H2 (k.trans k2) _ fun w H3 k3 => q w H3 (k2.trans k3)
    | false => exact h2 rfl H2 (k.trans k2) _ fun w H3 k3 => q w H3 (k2.trans k3)
theorem disN (ha : DE K ta σ H d) : DE K (tOp (fun x y H Q => y = .non ∧ Q (.bl (decide (x = .non))) H) ta (tC .non)) σ H (.bool (match d with | .none => true | _ => false)) := fun H1 k Q q =>
  ha H1 k _ fun v H2 k2 h2 => ⟨rfl, q _ H2 k2 (by cases h2 <;> exact .bl _)⟩
theorem dnotN (ha : DE K ta σ H d) : DE K (tOp (fun x y H Q => y = .non ∧ Q (.bl (!decide (x = .non))) H) ta (tC .non)) σ H (.bool (match d with | .none => false | _ => true)) := fun H1 k Q q =>
  ha H1 k _ fun v H2 k2 h2 => ⟨rfl, q _ H2 k2 (by cases h2 <;> exact .bl _)⟩
/-- == of data -/
theorem dE (ha : DE K ta σ H d) (hb : DE K tb σ H e) (s1 : SeqAt.shaped d = true) (s2 : SeqAt.shaped e = true) : DE K (tOp (rEqD K) ta tb) σ H (.bool (PyData.eqv d e)) := fun H1 k Q q =>
  ha H1 k _ fun v H2 k2 h2 => hb H2 (k.trans k2) _ fun w H3 k3 h3 => ⟨d, e, (h2.kp k3).dp, h3.dp, s1, s2, q _ H3 (k2.trans k3) (.bl _)⟩
theorem dEL (ha : DL K ta σ H ds) (hb : DL K tb σ H es) (s1 : SeqAt.shaped (.list ds) = true) (s2 : SeqAt.shaped (.list es) = true) : DE K (tOp (rEqD K) ta tb) σ H (.bool (PyData.eqv (.list ds) (.list es))) := fun H1 k Q q =>
  ha H1 k _ fun p H2 xs k2 n2 h2 h3 => hb H2 (k.trans k2) _ fun p' H3 ys k3 n3 h4 h5 => ⟨_, _, .lst (.of (k3.get h2)) (h3.kp k3).dp, .lst (.of h4) h5.dp, s1, s2, q _ H3 (k2.trans k3) (.bl _)⟩
theorem dNL (ha : DL K ta σ H ds) (hb : DL K tb σ H es) (s1 : SeqAt.shaped (.list ds) = true) (s2 : SeqAt.shaped (.list es) = true) : DE K (tOp (rNeD K) ta tb) σ H (.bool (!PyData.eqv (.list ds) (.list es))) := fun H1 k Q q =>
  ha H1 k _ fun p H2 xs k2 n2 h2 h3 => hb H2 (k.trans k2) _ fun p' H3 ys k3 n3 h4 h5 => ⟨_, _, .lst (.of (k3.get h2)) (h3.kp k3).dp, .lst (.of h4) h5.dp, s1, s2, q _ H3 (k2.trans k3) (.bl _)⟩
/-- a list that stands, as data -/
theorem dNLv {i : Nat} {p : Addr} {xs : List V} (hv : σ[i]? = some (some (.ref p))) (hp : SqL K H p xs) (hx : ImAll K H xs ds) (hb : DL K tb σ H es) (s1 : SeqAt.shaped (.list ds) = true) (s2 : SeqAt.shaped (.list es) = true) : DE K (tOp (rNeD K) (tVar i) tb) σ H (.bool (!PyData.eqv (.list ds) (.list es))) := fun H1 k Q q =>
  ⟨_, hv, hb H1 k _ fun p' H3 ys k3 n3 h4 h5 => ⟨_, _, .lst ((k.trans k3).sqL hp) (hx.kp (k.trans k3)).dp, .lst (.of h4) h5.dp, s1, s2, q _ H3 k3 (.bl _)⟩⟩
theorem dELv {i : Nat} {p : Addr} {xs : List V} (hv : σ[i]? = some (some (.ref p))) (hp : SqL K H p xs) (hx : ImAll K H xs ds) (hb : DL K tb σ H es) (s1 : SeqAt.shaped (.list ds) = true) (s2 : SeqAt.shaped (.list es) = true) : DE K (tOp (rEqD K) (tVar i) tb) σ H (.bool (PyData.eqv (.list ds) (.list es))) := fun H1 k Q q =>
  ⟨_, hv, hb H1 k _ fun p' H3 ys k3 n3 h4 h5 => ⟨_, _, .lst ((k.trans k3).sqL hp) (hx.kp (k.trans k3)).dp, .lst (.of h4) h5.dp, s1, s2, q _ H3 k3 (.bl _)⟩⟩
/-! isinstance with a built-in class -/
def clsOf : PyData → String
  | .none => "NoneType"
  | .bool _ => "bool"
  | .int _ => "int"
  | .str _ => "str"
  | .list _ => "list"
  | .tuple _ => "tuple"
  | .dict _ => "dict"
theorem Im.ty {v : V} (h : Im K H v d) : TyX K H v (.type (clsOf d)) := by
  cases h with
  | non => exact .base .non
  | bl b => exact .base (.bl b)
  | int i => exact .base (.int i)
  | str x => exact .base (.str x)
  | tup h r =>
    rcases h with (h | ⟨o, h⟩) | ⟨o, its, n, h1, h2, _⟩
    · exact .base (.tup h)
    · exact .fTuple h
    · exact .kTuple h1 h2
theorem disi {T : String} {b : Bool} (ha : DE K ta σ H d) (hb : kitB (clsOf d) T = some b) : DE K (tCB (rIsi K) (tCons ta (tCons (tC (.ty T)) tNil))) σ H (.bool b) := fun H1 k Q q =>
  ha H1 k _ fun v H2 k2 h2 => ⟨v, _, _, _, b, rfl, .ty T, h2.ty, kit_ty hb, q _ H2 k2 (.bl _)⟩
/-! slices of tuples -/
theorem donone : DO tNoPart σ H none := fun H1 k Q q => q H1 .refl
theorem dosome {i : Int} (h : DE K te σ H (.int i)) : DO (tPart te) σ H (some i) := fun H1 k Q q => h H1 k _ fun v H2 k2 hv => ⟨i, hv.intI, q H2 k2⟩
/-! statements -/
variable {D : Ends} {tu tw tz : TS} {g : TG}
theorem sret (h : DE K te σ H d) (k : ∀ v H1, Kp [] H H1 → Im K H1 v d → D.rt v H1) : tRet te D σ H := h H .refl _ k
theorem sretL (h : DL K te σ H ds) (k : ∀ p H1 xs, Kp [] H H1 → H p = none → H1 p = some (.lst xs) → ImAll K H1 xs ds → D.rt (.ref p) H1) : tRet te D σ H := h H .refl _ k
theorem qasg {i : Nat} (h : DE K te σ H d) (k : ∀ v H1, Kp [] H H1 → Im K H1 v d → tz D (σ.set i (some v)) H1) : tSeq (tAsg te (gName i)) tz D σ H := h H .refl _ k
theorem qasgL {i : Nat} (h : DL K te σ H ds) (k : ∀ p H1 xs, Kp [] H H1 → H p = none → H1 p = some (.lst xs) → ImAll K H1 xs ds → tz D (σ.set i (some (.ref p))) H1) : tSeq (tAsg te (gName i)) tz D σ H := h H .refl _ k
theorem sasg {i : Nat} (h : DE K te σ H d) (k : ∀ v H1, Kp [] H H1 → Im K H1 v d → D.nx (σ.set i (some v)) H1) : tAsg te (gName i) D σ H := h H .refl _ k
theorem qif {b : Bool} (h : DT t σ H b) (h1 : b = true → ∀ H1, Kp [] H H1 → tu { D with nx := tz D } σ H1) (h2 : b = false → ∀ H1, Kp [] H H1 → tw { D with nx := tz D } σ H1) : tSeq (tIfS t tu tw) tz D σ H :=
  h H .refl _ fun H1 k => by
    cases b with
    | true => exact h1 rfl H1 k
    | false => exact h2 rfl H1 k
theorem sif {b : Bool} (h : DT t σ H b) (h1 : b = true → ∀ H1, Kp [] H H1 → tu D σ H1) (h2 : b = false → ∀ H1, Kp [] H H1 → tw D σ H1) : tIfS t tu tw D σ H :=
  h H .refl _ fun H1 k => by
    cases b with
    | true => exact h1 rfl H1 k
    | false => exact h2 rfl H1 k
/-- a, b = t -/
theorem q2 {i j : Nat} {x y : PyData} (h : DE K te σ H (.tuple [x, y])) (k : ∀ v w H1, Kp [] H H1 → Im K H1 v x → Im K H1 w y → tz D ((σ.set i (some v)).set j (some w)) H1) : tSeq (tAsg te (gTup K 2 (gCons (gName i) (gCons (gName j) gNil)))) tz D σ H :=
  h H .refl _ fun v H1 k1 hv => by
    obtain ⟨a, xs, rfl, h1, h2⟩ := hv.tupI
    cases h2 with
    | cons q r =>
      cases r with
      | cons q2 r2 =>
        cases r2
        exact ⟨a, _, rfl, h1, rfl, _, _, rfl, _, _, rfl, rfl, k _ _ H1 k1 q q2⟩
/-! comprehensions -/
def gv (n : Nat) (f : Nat → Bool) (v : Nat → PyData) : List PyData := ((List.range n).filter f).map v
theorem gv_yes {n : Nat} {f : Nat → Bool} {v : Nat → PyData} (h : f n = true) : gv (n + 1) f v = gv n f v ++ [v n] := by
  unfold gv; rw [List.range_succ, List.filter_append]; simp [h]
theorem gv_no {n : Nat} {f : Nat → Bool} {v : Nat → PyData} (h : f n = false) : gv (n + 1) f v = gv n f v := by
  unfold gv; rw [List.range_succ, List.filter_append]; simp [h]
theorem gv_len (n : Nat) (f : Nat → Bool) (v : Nat → PyData) : (gv n f v).length ≤ n := by
  unfold gv; rw [List.length_map]; exact Nat.le_trans (List.length_filter_le _ _) (by simp)
theorem gv_all {n : Nat} {v : Nat → PyData} : gv n (fun _ => true) v = (List.range n).map v := by
  unfold gv; congr 1; simp
def Cw (K : PySem.W.Frag) (H : Hp) (f : Nat → Bool) (v : Nat → PyData) (Dl : Addr) (i : Nat) (H' : Hp) : Prop := H Dl = none ∧ Kp [] H H' ∧ ∃ acc, H' Dl = some (.lst acc) ∧ ImAll K H' acc (gv i f v)
theorem cw_start {f : Nat → Bool} {v : Nat → PyData} {Dl : Addr} (h : H Dl = none) : Cw K H f v Dl 0 (upd H Dl (.lst [])) := ⟨h, .new h, [], upd_same, .nil⟩
theorem cw_turn {H H' : Hp} {f : Nat → Bool} {v : Nat → PyData} {Dl : Addr} {i : Nat} {σ2 : L2.St} (p : Cw K H f v Dl i H') (hi : i < 50000) (ht : DT t σ2 H' (f i)) (he : f i = true → DE K te σ2 H' (v i)) :
    t σ2 H' fun b H3 => if b = true then te σ2 H3 fun y H4 => ∃ acc, H4 Dl = some (.lst acc) ∧ acc.length < sizeLine ∧ Cw K H f v Dl (i + 1) (upd H4 Dl (.lst (acc ++ [y]))) else Cw K H f v Dl (i + 1) H3 := by
  obtain ⟨p1, p2, acc, p3, p4⟩ := p
  refine ht H' .refl _ fun H3 e3 => ?_
  cases hf : f i with
  | true =>
    show te σ2 H3 fun y H4 => ∃ acc, H4 Dl = some (.lst acc) ∧ acc.length < sizeLine ∧ Cw K H f v Dl (i + 1) (upd H4 Dl (.lst (acc ++ [y])))
    refine he hf H3 e3 _ fun y H4 e4 hy => ?_
    have k4 := e3.trans e4
    refine ⟨acc, k4.get p3, Evl.sz_lt (by have := gv_len i f v; have := p4.len; omega), p1, (p2.trans k4).wn p1, acc ++ [y], upd_same, ?_⟩
    rw [gv_yes hf]
    have kk : Kp [Dl] H4 (upd H4 Dl (.lst (acc ++ [y]))) := .wl (k4.get p3) (by simp)
    exact ((p4.kp k4).kp kk).app (.cons (hy.kp kk) .nil)
  | false =>
    show Cw K H f v Dl (i + 1) H3
    refine ⟨p1, p2.trans e3, acc, e3.get p3, ?_⟩
    rw [gv_no hf]
    exact p4.kp e3
/-- [.. for x in t], t a tuple -/
theorem dlcT {tl : TE} {j : Nat} {vs : List Nat} (f : Nat → Bool) (v : Nat → PyData) (h : DE K tl σ H (.tuple ds)) (hz : ds.length ≤ 40000) (hw : ∀ x, wipe ((wipe σ vs).set j (some x)) vs = wipe σ vs)
    (ht : ∀ (i : Nat) (x : V) d H1, Kp [] H H1 → ds[i]? = some d → Im K H1 x d → DT t ((wipe σ vs).set j (some x)) H1 (f i)) (he : ∀ (i : Nat) (x : V) d H1, Kp [] H H1 → ds[i]? = some d → Im K H1 x d → f i = true → DE K te ((wipe σ vs).set j (some x)) H1 (v i)) :
    DL K (tLc (iTup K tl) (gName j) t te vs) σ H (gv ds.length f v) := fun H0 e Q q => h H0 e _ fun w H1 e1 hw1 => by
  obtain ⟨a, xs, rfl, hx, hxs⟩ := hw1.tupI
  have hlen := hxs.len
  refine ⟨a, rfl, ⟨xs, hx⟩, fun Dl hD => ?_⟩
  refine lc_tup (xs := xs) (Cw K H1 f v Dl) (cw_start hD) (fun i H' _ p => p.2.1.sqT hx) (fun i x H' hi p => ⟨hw x, ?_⟩) (fun H' p => ?_)
  · obtain ⟨d, hd, hxd⟩ := hxs.getV hi
    have hil := (List.getElem?_eq_some_iff.mp hi).1
    have kk := (e.trans e1).trans p.2.1
    exact cw_turn p (by omega) (ht i x d H' kk hd (hxd.kp p.2.1)) (he i x d H' kk hd (hxd.kp p.2.1))
  · obtain ⟨p1, p2, acc, p3, p4⟩ := p
    rw [hlen] at p4
    exact q Dl H' acc (e1.trans p2) (e1.free p1) p3 p4
/-- [.. for x in l], l a list that stands -/
theorem dlcV {a : Addr} {xs : List V} {i0 : Nat} {j : Nat} {vs : List Nat} (f : Nat → Bool) (v : Nat → PyData) (h : σ[i0]? = some (some (.ref a))) (hx : SqL K H a xs) (hxs : ImAll K H xs ds) (hz : ds.length ≤ 40000) (hw : ∀ x, wipe ((wipe σ vs).set j (some x)) vs = wipe σ vs)
    (ht : ∀ (i : Nat) (x : V) d H1, Kp [] H H1 → ds[i]? = some d → Im K H1 x d → DT t ((wipe σ vs).set j (some x)) H1 (f i)) (he : ∀ (i : Nat) (x : V) d H1, Kp [] H H1 → ds[i]? = some d → Im K H1 x d → f i = true → DE K te ((wipe σ vs).set j (some x)) H1 (v i)) :
    DL K (tLc (iList K (tVar i0)) (gName j) t te vs) σ H (gv ds.length f v) := fun H1 e Q q => by
  have hlen := hxs.len
  refine ⟨_, h, a, rfl, ⟨xs, e.sqL hx⟩, fun Dl hD => ?_⟩
  refine lc_list (xs := xs) (Cw K H1 f v Dl) (cw_start hD) (fun i H' _ p => (e.trans p.2.1).sqL hx) (fun i x H' hi p => ⟨hw x, ?_⟩) (fun H' p => ?_)
  · obtain ⟨d, hd, hxd⟩ := hxs.getV hi
    have hil := (List.getElem?_eq_some_iff.mp hi).1
    have kk := e.trans p.2.1
    exact cw_turn p (by omega) (ht i x d H' kk hd (hxd.kp kk)) (he i x d H' kk hd (hxd.kp kk))
  · obtain ⟨p1, p2, acc, p3, p4⟩ := p
    rw [hlen] at p4
    exact q Dl H' acc p2 p1 p3 p4
/-- [.. for x in a new list] -/
theorem dlcN {tl : TE} {j : Nat} {vs : List Nat} (f : Nat → Bool) (v : Nat → PyData) (h : DL K tl σ H ds) (hz : ds.length ≤ 40000) (hw : ∀ x, wipe ((wipe σ vs).set j (some x)) vs = wipe σ vs)
    (ht : ∀ (i : Nat) (x : V) d H1, Kp [] H H1 → ds[i]? = some d → Im K H1 x d → DT t ((wipe σ vs).set j (some x)) H1 (f i)) (he : ∀ (i : Nat) (x : V) d H1, Kp [] H H1 → ds[i]? = some d → Im K H1 x d → f i = true → DE K te ((wipe σ vs).set j (some x)) H1 (v i)) :
    DL K (tLc (iList K tl) (gName j) t te vs) σ H (gv ds.length f v) := fun H0 e Q q => h H0 e _ fun a H1 xs e1 ha hx hxs => by
  have hlen := hxs.len
  refine ⟨a, rfl, ⟨xs, .of hx⟩, fun Dl hD => ?_⟩
  refine lc_list (xs := xs) (Cw K H1 f v Dl) (cw_start hD) (fun i H' _ p => p.2.1.sqL (.of hx)) (fun i x H' hi p => ⟨hw x, ?_⟩) (fun H' p => ?_)
  · obtain ⟨d, hd, hxd⟩ := hxs.getV hi
    have hil := (List.getElem?_eq_some_iff.mp hi).1
    have kk := (e.trans e1).trans p.2.1
    exact cw_turn p (by omega) (ht i x d H' kk hd (hxd.kp p.2.1)) (he i x d H' kk hd (hxd.kp p.2.1))
  · obtain ⟨p1, p2, acc, p3, p4⟩ := p
    rw [hlen] at p4
    exact q Dl H' acc (e1.trans p2) (e1.free p1) p3 p4
/-- [.. for k in range(n)] -/
theorem dlcR {ta : TA} {j : Nat} {vs : List Nat} {n : Nat} (f : Nat → Bool) (v : Nat → PyData) (h : DA K ta σ H [.int (n : Int)]) (hn : n ≤ 40000) (hw : ∀ x, wipe ((wipe σ vs).set j (some x)) vs = wipe σ vs)
    (ht : ∀ (i : Nat) H1, Kp [] H H1 → i < n → DT t ((wipe σ vs).set j (some (.int (i : Int)))) H1 (f i)) (he : ∀ (i : Nat) H1, Kp [] H H1 → i < n → f i = true → DE K te ((wipe σ vs).set j (some (.int (i : Int)))) H1 (v i)) :
    DL K (tLc (iRng1 ta) (gName j) t te vs) σ H (gv n f v) := fun H0 e Q q => h H0 e _ fun us H1 e1 hu => by
  cases hu with
  | cons h1 hr =>
    cases hr
    have := h1.intI
    subst this
    refine ⟨(n : Int), rfl, by omega, by omega, fun Dl hD => ?_⟩
    refine lc_range (lo := 0) (n := (n : Int).toNat) (Cw K H1 f v Dl) (cw_start hD) (fun i H' hi p => ?_) (fun H' p => ?_)
    · have e0 : (0 : Int) + (i : Int) = (i : Int) := Int.zero_add _
      have hin : i < n := by omega
      show wipe ((wipe σ vs).set j (some (.int ((0 : Int) + (i : Int))))) vs = wipe σ vs ∧ _
      rw [e0]
      exact ⟨hw _, cw_turn p (by omega) (ht i H' ((e.trans e1).trans p.2.1) hin) (he i H' ((e.trans e1).trans p.2.1) hin)⟩
    · obtain ⟨p1, p2, acc, p3, p4⟩ := p
      have en : (n : Int).toNat = n := by omega
      rw [en] at p4
      exact q Dl H' acc (e1.trans p2) (e1.free p1) p3 p4
/-- [.. for k, x in enumerate(t)] -/
theorem dlcE {tl : TE} {j1 j2 : Nat} {vs : List Nat} (f : Nat → Bool) (v : Nat → PyData) (h : DE K tl σ H (.tuple ds)) (hz : ds.length ≤ 40000) (hw : ∀ x y, wipe (((wipe σ vs).set j1 (some x)).set j2 (some y)) vs = wipe σ vs)
    (ht : ∀ (i : Nat) (x : V) d H1, Kp [] H H1 → ds[i]? = some d → Im K H1 x d → DT t (((wipe σ vs).set j1 (some (.int (i : Nat)))).set j2 (some x)) H1 (f i)) (he : ∀ (i : Nat) (x : V) d H1, Kp [] H H1 → ds[i]? = some d → Im K H1 x d → f i = true → DE K te (((wipe σ vs).set j1 (some (.int (i : Nat)))).set j2 (some x)) H1 (v i)) :
    DL K (tLc (iEnT K (tCons tl tNil)) (gTup K 2 (gCons (gName j1) (gCons (gName j2) gNil))) t te vs) σ H (gv ds.length f v) := fun H0 e Q q => h H0 e _ fun w H1 e1 hw1 => by
  obtain ⟨a, xs, rfl, hx, hxs⟩ := hw1.tupI
  have hlen := hxs.len
  refine ⟨a, xs, rfl, hx, fun Dl hD => ?_⟩
  refine lc_it (walk_enT (xs := xs)) (Cw K H1 f v Dl) (cw_start hD) (fun i H' _ p => p.2.1.sqT hx) (fun i x H' H2 hi p y => ?_) (fun H' p => ?_)
  · obtain ⟨T, x1, x2, rfl, hT, rfl, e1', e2'⟩ := y
    cases e1'
    have kT : Kp [] H' (upd H' T (.tup [.int (i : Nat), x2])) := .new hT
    refine ⟨T, [.int (i : Nat), x2], rfl, .of upd_same, rfl, _, _, rfl, _, _, rfl, rfl, hw _ _, ?_⟩
    obtain ⟨d, hd, hxd⟩ := hxs.getV e2'
    have p' : Cw K H1 f v Dl i (upd H' T (.tup [.int (i : Nat), x2])) := by
      obtain ⟨p1, p2, acc, p3, p4⟩ := p
      exact ⟨p1, p2.trans kT, acc, kT.get p3, p4.kp kT⟩
    have kk := (e.trans e1).trans p'.2.1
    exact cw_turn p' (by omega) (ht i x2 d _ kk hd (hxd.kp p'.2.1)) (he i x2 d _ kk hd (hxd.kp p'.2.1))
  · obtain ⟨p1, p2, acc, p3, p4⟩ := p
    rw [hlen] at p4
    exact q Dl H' acc (e1.trans p2) (e1.free p1) p3 p4
theorem dyes : DT tYes σ H true := fun H1 k Q q => q H1 .refl
/-! lists that stand in a slot -/
theorem dlenV {i : Nat} {p : Addr} {xs : List V} (hv : σ[i]? = some (some (.ref p))) (hp : SqL K H p xs) (hx : ImAll K H xs ds) : DE K (tCB (fun xs H Q => ∃ p ys, xs = [.ref p] ∧ (SqL K H p ys ∨ SqT K H p ys) ∧ Q (.int ys.length) H) (tCons (tVar i) tNil)) σ H (.int (ds.length : Int)) := fun H1 k Q q =>
  ⟨_, hv, p, xs, rfl, .inl (k.sqL hp), q _ H1 .refl (by rw [hx.len]; exact .int _)⟩
theorem dixV {i : Nat} {p : Addr} {xs : List V} {j : Int} (hv : σ[i]? = some (some (.ref p))) (hp : SqL K H p xs) (hx : ImAll K H xs ds) (hb : DE K tb σ H (.int j)) (hj : atI ds j = some d) : DE K (tOp (rIxL K) (tVar i) tb) σ H d := fun H1 k Q q =>
  ⟨_, hv, hb H1 k _ fun w H2 k2 hw => by
    obtain rfl := hw.intI
    obtain ⟨v, h6, h7⟩ := imAtI (hx.kp (k.trans k2)) hj
    exact ⟨p, xs, j, v, rfl, rfl, (k.trans k2).sqL hp, h6, q _ H2 k2 h7⟩⟩
theorem dNLvv {i j : Nat} {p p' : Addr} {xs ys : List V} (hv : σ[i]? = some (some (.ref p))) (hp : SqL K H p xs) (hx : ImAll K H xs ds) (hv' : σ[j]? = some (some (.ref p'))) (hp' : SqL K H p' ys) (hy : ImAll K H ys es) (s1 : SeqAt.shaped (.list ds) = true) (s2 : SeqAt.shaped (.list es) = true) : DE K (tOp (rNeD K) (tVar i) (tVar j)) σ H (.bool (!PyData.eqv (.list ds) (.list es))) := fun H1 k Q q =>
  ⟨_, hv, _, hv', _, _, .lst (k.sqL hp) (hx.kp k).dp, .lst (k.sqL hp') (hy.kp k).dp, s1, s2, q _ H1 .refl (.bl _)⟩
theorem q2pL {i j : Nat} {tz : TS} {D : Ends} (h1 : DL K ta σ H ds) (h2 : DL K tb σ H es) (k : ∀ p q xs ys H1, Kp [] H H1 → H p = none → H q = none → H1 p = some (.lst xs) → H1 q = some (.lst ys) → ImAll K H1 xs ds → ImAll K H1 ys es → tz D ((σ.set i (some (.ref p))).set j (some (.ref q))) H1) : tSeq (tPar i j (tCons ta (tCons tb tNil))) tz D σ H :=
  h1 H .refl _ fun p H1 xs k1 np hp hx => h2 H1 k1 _ fun q H2 ys k2 nq hq hy => ⟨_, _, rfl, k p q xs ys H2 (k1.trans k2) np (k1.free nq) (k2.get hp) hq (hx.kp k2) hy⟩
/-- int(an int) -/
theorem dcint {i : Int} (ha : DE K ta σ H (.int i)) : DE K (tCB (fun xs H Q => (∃ i, xs = [.int i] ∧ Q (.int i) H) ∨ ∃ k, xs = [.bl k] ∧ Q (.int (if k then 1 else 0)) H) (tCons ta tNil)) σ H (.int i) := fun H1 k Q q =>
  ha H1 k _ fun v H2 k2 h2 => by
    obtain rfl := h2.intI
    exact .inl ⟨i, rfl, q _ H2 k2 (.int _)⟩
theorem dcbool {b : Bool} (ha : DE K ta σ H (.bool b)) : DE K (tCB (fun xs H Q => (∃ i, xs = [.int i] ∧ Q (.bl (i != 0)) H) ∨ ∃ k, xs = [.bl k] ∧ Q (.bl k) H) (tCons ta tNil)) σ H (.bool b) := fun H1 k Q q =>
  ha H1 k _ fun v H2 k2 h2 => by
    obtain rfl := h2.blI
    exact .inr ⟨b, rfl, q _ H2 k2 (.bl _)⟩
/-- a <= b <= c -/
theorem dch {f g : Int → Int → Bool} {tc : TE} {i j l : Int} (ha : DE K ta σ H (.int i)) (hb : DE K tb σ H (.int j)) (hc : DE K tc σ H (.int l)) : DE K (tChain (rI0 fun i j => .bl (f i j)) (rI0 fun i j => .bl (g i j)) ta tb tc) σ H (.bool (f i j && g j l)) := fun H1 k Q q =>
  ha H1 k _ fun v H2 k2 h2 => hb H2 (k.trans k2) _ fun w H3 k3 h3 => by
    obtain rfl := h2.intI
    obtain rfl := h3.intI
    refine ⟨i, j, rfl, rfl, f i j, rfl, ?_⟩
    cases e : f i j with
    | true =>
      refine hc H3 (k.trans (k2.trans k3)) _ fun x H4 k4 h4 => ?_
      obtain rfl := h4.intI
      exact ⟨j, l, rfl, rfl, q _ H4 (k2.trans (k3.trans k4)) (by rw [e, Bool.true_and]; exact .bl _)⟩
    | false => exact q _ H3 (k2.trans k3) (by rw [e, Bool.false_and]; exact .bl _)
theorem sretV {v : V} {D : Ends} (h : DE K te σ H d) (hs : scV d = some v) (k : ∀ H1, Kp [] H H1 → D.rt v H1) : tRet te D σ H := h H .refl _ fun w H1 k1 hw => by
  obtain rfl := hw.sc hs
  exact k H1 k1
end
end TB
namespace TB
open PySem PySem.Spec PyProof.Rows L2
section
variable {P : Program} {w : World} {K : PySem.W.Frag} {mg : Str → Option Value} {base : Heap}

theorem dT {p : Prop} [Decidable p] {A B : Prop} (hp : p) (h : A) : if decide p = true then A else B := by
  rw [if_pos (decide_eq_true hp)]; exact h
theorem dF {p : Prop} [Decidable p] {A B : Prop} (hp : ¬ p) (h : B) : if decide p = true then A else B := by
  rw [if_neg (by rw [decide_eq_false hp]; exact Bool.false_ne_true)]; exact h
theorem nT {p : Prop} [Decidable p] {A B : Prop} (hp : ¬ p) (h : A) : if (!decide p) = true then A else B := by
  rw [if_pos (by rw [decide_eq_false hp]; rfl)]; exact h
theorem nF {p : Prop} [Decidable p] {A B : Prop} (hp : p) (h : B) : if (!decide p) = true then A else B := by
  rw [if_neg (by rw [decide_eq_true hp]; exact Bool.false_ne_true)]; exact h
theorem isInt {H : Hp} {i : Int} {b : Bool} {T : String} {Q : VK} (hb : kitB "int" T = some b) (q : Q (.bl b) H) : rIsi K [.int i, .ty T] H Q :=
  ⟨_, _, _, _, b, rfl, .ty _, .base (.int i), kit_ty hb, q⟩

abbrev nl_is_integer : List Str := ["value", "low", "high"]
theorem sc_is_integer : FnScope nl_is_integer ["value", "low", "high"] (defScope s_is_integer) := ⟨rfl, rfl, rfl, by decide +kernel, rfl, by decide +kernel, by decide +kernel⟩
def sp_is_integer : Sp := fun vs H Q _ => ∃ v lo hi : Int, vs = [.int v, .int lo, .int hi] ∧ RetV H Q (.bl (decide (lo ≤ v ∧ v ≤ hi)))
theorem ok_is_integer (T : Txt K mg) : FnOk P w K mg base CX0 1 (He.ga K "is_integer") (fdA K (He.ga K "is_integer")) ["value", "low", "high"] sp_is_integer := by
  refine T.f_is_integer.ok sc_is_integer (fun vs H Q E h => ?_) (fun cdv A outer s H vs Q E hr h => ?_)
  · obtain ⟨v, lo, hi, rfl, k⟩ := h
    rfl
  · have nd := sc_is_integer.nd
    have hu := hr.units
    obtain ⟨v, lo, hi, rfl, k⟩ := h
    refine ⟨_, PSs.nox (pss_one (ps_ret (pe_and (pe_callB (clIsi (K := K) rfl) (by rfl) T.n_isinstance (by decide +kernel) (pa_cons (pv 0) (pa_cons (pe_bltn (v := .ty "int") (by rfl) T.n_int (by decide +kernel) rfl) pa_nil))) (pe_and (pe_not (pe_callB (clIsi (K := K) rfl) (by rfl) T.n_isinstance (by decide +kernel) (pa_cons (pv 0) (pa_cons (pe_bltn (v := .ty "bool") (by rfl) T.n_bool (by decide +kernel) rfl) pa_nil)))) (pe_one (pe_chain op_le op_le (pv 1) (pv 0) (pv 2))))))), ?_⟩
    refine ⟨_, rfl, _, _, _, _, true, rfl, .ty _, .base (.int _), kit_ty (by decide +kernel), true, rfl, iteT ?_⟩
    refine ⟨_, rfl, _, _, _, _, false, rfl, .ty _, .base (.int _), kit_ty (by decide +kernel), false, rfl, true, rfl, iteT ?_⟩
    refine ⟨_, rfl, _, rfl, _, _, rfl, rfl, _, rfl, ?_⟩
    by_cases h1 : lo ≤ v
    · refine dT h1 ⟨_, rfl, _, _, rfl, rfl, ?_⟩
      exact k.to .refl (by simp [h1])
    · refine dF h1 ?_
      exact k.to .refl (by simp [h1])

abbrev nl_common : List Str := ["one", "other"]
theorem sc_common : FnScope nl_common ["one", "other"] (defScope s_common) := ⟨rfl, rfl, rfl, by decide +kernel, rfl, by decide +kernel, by decide +kernel⟩
def sp_common : Sp := fun vs H Q _ => ∃ a b : Int, vs = [.int a, .int b] ∧ 0 ≤ a ∧ 0 ≤ b ∧ RetV H Q (.int (Int.gcd a b))
theorem ok_common (T : Txt K mg) : FnOk P w K mg base CX0 1 (He.ga K "common") (fdA K (He.ga K "common")) ["one", "other"] sp_common := by
  refine T.f_common.ok sc_common (fun vs H Q E h => ?_) (fun cdv A outer s H vs Q E hr h => ?_)
  · obtain ⟨a0, b0, rfl, ha, hb, k⟩ := h
    rfl
  · have nd := sc_common.nd
    have hu := hr.units
    obtain ⟨a0, b0, rfl, ha, hb, k⟩ := h
    refine ⟨_, PSs.nox (pss_cons (ps_while PassesOwn.never (pt_cmpR op_gt (pv 1) pe_int (nomark _)) (pss_one (ps_par (i := 0) (j := 1) rfl nd rfl rfl (by decide) rfl rfl (pa_cons (pv 1) (pa_cons (pe_op op_mod (pv 0) (pv 1)) pa_nil)) (by rfl))))
      (pss_one (ps_ret (pv 0)))), ?_⟩
    refine ⟨fun m σ H' => ∃ a b : Int, σ = [some (.int a), some (.int b)] ∧ 0 ≤ a ∧ 0 ≤ b ∧ Int.gcd a b = Int.gcd a0 b0 ∧ m = b.toNat ∧ H' = H, ⟨_, a0, b0, rfl, ha, hb, rfl, rfl, rfl⟩, ?_⟩
    rintro m σ H' ⟨a, b, rfl, ha, hb, hg, rfl, rfl⟩
    refine ⟨_, rfl, _, _, rfl, rfl, _, rfl, ?_⟩
    by_cases c : 0 < b
    · refine dT c ?_
      refine ⟨fun σ' H2 => σ' = [some (.int b), some (.int (a % b))] ∧ H2 = H', ?_, ?_⟩
      · rintro σ2 H2 ⟨rfl, rfl⟩
        have h1 := Int.emod_lt_of_pos a c
        have h2 := Int.emod_nonneg a (Int.ne_of_gt c)
        exact ⟨_, by omega, b, a % b, rfl, hb, h2, by rw [gcd_step ha c, hg], rfl, rfl⟩
      · exact ⟨_, rfl, _, rfl, _, rfl, _, _, rfl, rfl, c, _, _, rfl, rfl, rfl⟩
    · refine dF c ?_
      have e : b = 0 := by omega
      subst e
      refine ⟨_, rfl, ?_⟩
      refine k.to .refl ?_
      rw [← hg, Int.gcd_zero_right]
      have : ((a.natAbs : Nat) : Int) = a := by omega
      rw [this]

abbrev nl_inverse : List Str := ["one", "other", "left", "right", "now", "later", "times"]
theorem sc_inverse : FnScope nl_inverse ["one", "other"] (defScope s_inverse) := ⟨rfl, rfl, rfl, by decide +kernel, rfl, by decide +kernel, by decide +kernel⟩
def sp_inverse : Sp := fun vs H Q _ => ∃ a m : Int, vs = [.int a, .int m] ∧ 0 ≤ a ∧ 0 < m ∧ m ≤ 1000000000000 ∧ Int.gcd a m = 1 ∧ ∀ i : Int, 0 ≤ i → i < m → (∃ k, i * a = 1 + m * k) → RetV H Q (.int i)
theorem ok_inverse (T : Txt K mg) : FnOk P w K mg base CX0 1 (He.ga K "inverse") (fdA K (He.ga K "inverse")) ["one", "other"] sp_inverse := by
  refine T.f_inverse.ok sc_inverse (fun vs H Q E h => ?_) (fun cdv A outer s H vs Q E hr h => ?_)
  · obtain ⟨a, m, rfl, ha, hm, hm2, hg, k⟩ := h
    rfl
  · have nd := sc_inverse.nd
    have hu := hr.units
    obtain ⟨a, m, rfl, ha, hm, hm2, hg, k⟩ := h
    refine ⟨_, PSs.nox (pss_cons (ps_asg (pe_tup (pa_cons (pe_op op_mod (pv 0) (pv 1)) (pa_cons (pv 1) (pa_cons pe_int (pa_cons pe_int pa_nil))))) (pgT (K := K) (n := 4) rfl rfl (pgs_cons (pg_name (i := 2) nd rfl (Or.inl rfl)) (pgs_cons (pg_name (i := 3) nd rfl (Or.inl rfl)) (pgs_cons (pg_name (i := 4) nd rfl (Or.inl rfl)) (pgs_cons (pg_name (i := 5) nd rfl (Or.inl rfl)) pgs_nil))))))
      (pss_cons (ps_while PassesOwn.never (pt_cmpR op_gt (pv 2) pe_int (nomark _)) (pss_cons (ps_set (i := 6) nd rfl (Or.inl rfl) (pe_op op_fdivW (pv 3) (pv 2)))
      (pss_cons (ps_par (i := 2) (j := 3) rfl nd rfl rfl (by decide) rfl rfl (pa_cons (pe_op op_sub (pv 3) (pe_op op_mul (pv 6) (pv 2))) (pa_cons (pv 2) pa_nil)) (by rfl))
      (pss_one (ps_par (i := 4) (j := 5) rfl nd rfl rfl (by decide) rfl rfl (pa_cons (pe_op op_sub (pv 5) (pe_op op_mul (pv 6) (pv 4))) (pa_cons (pv 4) pa_nil)) (by rfl))))))
      (pss_one (ps_ret (pe_op op_mod (pv 5) (pv 1)))))), ?_⟩
    refine ⟨_, rfl, _, rfl, _, _, rfl, rfl, hm, _, rfl, (by show 4 ≤ sizeLine; decide), fun p np => ?_⟩
    refine ⟨p, _, rfl, .of upd_same, rfl, _, _, rfl, _, _, rfl, _, _, rfl, _, _, rfl, rfl, ?_⟩
    have kp : Kp [] H (upd H p (.tup [.int (a % m), .int m, .int 1, .int 0])) := .new np
    refine ⟨fun μ σ H' => ∃ (l r n t : Int) (x : Option V), σ = [some (.int a), some (.int m), some (.int l), some (.int r), some (.int n), some (.int t), x] ∧ Iv a m l r n t ∧ μ = l.toNat ∧ H' = upd H p (.tup [.int (a % m), .int m, .int 1, .int 0]),
      ⟨_, _, _, _, _, none, rfl, Iv.start ha hm hg, rfl, rfl⟩, ?_⟩
    rintro μ σ H' ⟨l, r, n, t, x, rfl, J, rfl, rfl⟩
    refine ⟨_, rfl, _, _, rfl, rfl, _, rfl, ?_⟩
    by_cases c : 0 < l
    · refine dT c ?_
      obtain ⟨q0, q1, q2⟩ := J.small c hm2
      refine ⟨fun σ' H2 => σ' = [some (.int a), some (.int m), some (.int (r - r / l * l)), some (.int l), some (.int (t - r / l * n)), some (.int n), some (.int (r / l))] ∧ H2 = upd H p (.tup [.int (a % m), .int m, .int 1, .int 0]), ?_, ?_⟩
      · rintro σ2 H2 ⟨rfl, rfl⟩
        have J2 := J.step c
        have h1 := Int.emod_lt_of_pos r c
        have h2 : r - r / l * l = r % l := by have := Int.emod_add_mul_ediv r l; rw [Int.mul_comm l (r / l)] at this; omega
        exact ⟨_, by omega, _, _, _, _, _, rfl, J2, rfl, rfl⟩
      · refine ⟨_, rfl, _, rfl, _, _, rfl, rfl, wide_div c (q2) (by decide) (by decide), ?_⟩
        refine ⟨_, rfl, _, rfl, _, rfl, _, _, rfl, rfl, .inl ⟨by omega, q1⟩, _, _, rfl, rfl, _, rfl, _, _, rfl, ?_⟩
        exact ⟨_, rfl, _, rfl, _, rfl, _, _, rfl, rfl, .inl ⟨by omega, q1⟩, _, _, rfl, rfl, _, rfl, _, _, rfl, rfl, rfl⟩
    · refine dF c ?_
      refine ⟨_, rfl, _, rfl, _, _, rfl, rfl, hm, ?_⟩
      exact k _ (Int.emod_nonneg _ (Int.ne_of_gt hm)) (Int.emod_lt_of_pos _ hm) (J.last hm c) _ kp

abbrev nl_least_times : List Str := ["one", "other", "side", "part"]
theorem sc_least_times : FnScope nl_least_times ["one", "other", "side"] (defScope s_least_times) := ⟨rfl, rfl, rfl, by decide +kernel, rfl, by decide +kernel, by decide +kernel⟩
def sp_least_times : Sp := fun vs H Q _ => ∃ a b s : Int, vs = [.int a, .int b, .int s] ∧ 0 < a ∧ 0 < b ∧ a ≤ 1000000000000 ∧ b ≤ 1000000000000 ∧
  (s % (Int.gcd a b : Int) ≠ 0 → RetV H Q .non) ∧ (s % (Int.gcd a b : Int) = 0 → ∀ t : Int, 0 ≤ t → t < b / (Int.gcd a b : Int) → (∃ k, a * t = s + b * k) → RetV H Q (.int t))
theorem ok_least_times (T : Txt K mg) : FnOk P w K mg base CX0 2 (He.ga K "least_times") (fdA K (He.ga K "least_times")) ["one", "other", "side"] sp_least_times := by
  refine T.f_least_times.ok sc_least_times (fun vs H Q E h => ?_) (fun cdv A outer s H vs Q E hr h => ?_)
  · obtain ⟨a, b, s0, rfl, ha, hb, la, lb, k1, k2⟩ := h
    rfl
  · have nd := sc_least_times.nd
    have hu := hr.units
    obtain ⟨a, b, s0, rfl, ha, hb, la, lb, k1, k2⟩ := h
    refine ⟨_, PSs.nox (pss_cons (ps_set (i := 3) nd rfl (Or.inl rfl) (pe_call (ok_common T) (hr.mono (by decide)) (by rfl) T.g_common (T.f_common.kp) (T.b_common) .nil pass0 (pa_cons (pv 0) (pa_cons (pv 1) pa_nil))))
      (pss_cons (ps_if (pt_cmpR op_ne (pe_op op_mod (pv 2) (pv 3)) pe_int (nomark _)) (pss_one (ps_ret pe_non)) pss_nil)
      (pss_one (ps_ret (pe_op op_mod (pe_op op_mul (pe_op op_fdivW (pv 2) (pv 3)) (pe_call (ok_inverse T) (hr.mono (by decide)) (by rfl) T.g_inverse (T.f_inverse.kp) (T.b_inverse) .nil pass0 (pa_cons (pe_op op_fdivW (pv 0) (pv 3)) (pa_cons (pe_op op_fdivW (pv 1) (pv 3)) pa_nil)))) (pe_op op_fdivW (pv 1) (pv 3))))))), ?_⟩
    have hg := gcd_pos' (b := b) ha
    have hgl := gcd_le' (b := b) ha
    refine ⟨_, rfl, _, rfl, a, b, rfl, Int.le_of_lt ha, Int.le_of_lt hb, fun H1 q1 => ?_⟩
    refine ⟨_, rfl, _, rfl, _, _, rfl, rfl, hg, rfl, _, rfl, ?_⟩
    by_cases c : s0 % (Int.gcd a b : Int) = 0
    · refine nF (congrArg V.int c) ?_
      have wd : ∀ x : Int, CDivW x (Int.gcd a b : Int) := fun x => wide_div hg (b := 40) (by omega) (by decide) (by decide)
      refine ⟨_, rfl, _, rfl, _, _, rfl, rfl, wd _, _, rfl, _, rfl, _, _, rfl, rfl, wd _, _, rfl, _, rfl, _, _, rfl, rfl, wd _, ?_⟩
      have db := Int.gcd_dvd_right a b
      have hbg : 0 < b / (Int.gcd a b : Int) := Int.ediv_pos_of_pos_of_dvd hb (Int.le_of_lt hg) db
      have hbl : b / (Int.gcd a b : Int) ≤ b := Int.ediv_le_self _ (Int.le_of_lt hb)
      refine ⟨_, _, rfl, Int.ediv_nonneg (Int.le_of_lt ha) (Int.le_of_lt hg), hbg, by omega, Int.gcd_ediv_gcd_ediv_gcd (by omega), fun i i0 i1 ik H2 q2 => ?_⟩
      refine ⟨_, _, rfl, rfl, .inr ⟨by omega, by omega⟩, _, rfl, _, rfl, _, _, rfl, rfl, wd _, _, _, rfl, rfl, hbg, ?_⟩
      obtain ⟨t0, t1, tk⟩ := times_ok ha hb c ik rfl
      exact k2 c _ t0 t1 tk _ (q1.trans q2)
    · refine nT (fun e => c (V.int.inj e)) ?_
      exact k1 c _ q1


/-- the axes along which a brick's side does not divide the box's -/
def rstN (a x : List Int) : List Nat := (List.range x.length).filter fun i => decide (x.getD i 0 % a.getD i 1 ≠ 0)
def rst (a x : List Int) : List Int := (rstN a x).map fun i => ((i : Nat) : Int)
theorem getMap {α : Type} {f : α → PyData} {x : List α} {i : Nat} {d : PyData} (h : (x.map f)[i]? = some d) : ∃ s, x[i]? = some s ∧ d = f s := by
  rw [List.getElem?_map] at h
  cases e : x[i]? with
  | none => rw [e] at h; cases h
  | some s => rw [e] at h; exact ⟨s, rfl, (Option.some.inj h).symm⟩
theorem atMap {α : Type} (f : α → PyData) {x : List α} {i : Nat} {s : α} (h : x[i]? = some s) : atI (x.map f) (i : Int) = some (f s) := atI_nat (by rw [List.getElem?_map, h]; rfl)
theorem getD_of {x : List Int} {i : Nat} {s z : Int} (h : x[i]? = some s) : x.getD i z = s := by rw [List.getD_eq_getElem?_getD, h]; rfl
theorem get_lt {α : Type} {x : List α} {i : Nat} (h : i < x.length) : x[i]? = some x[i] := by simp [h]
theorem rst_gv (a x : List Int) : gv x.length (fun i => decide (x.getD i 0 % a.getD i 1 ≠ 0)) (fun i => .int ((i : Nat) : Int)) = (rst a x).map PyData.int := by
  unfold gv rst rstN; rw [List.map_map]; rfl
theorem rst_len (a x : List Int) : (rst a x).length ≤ x.length := by
  unfold rst rstN; rw [List.length_map]; exact Nat.le_trans (List.length_filter_le _ _) (by simp)

abbrev nl_rests_papers : List Str := ["brick", "box", "axis", "side"]
theorem sc_rests_papers : FnScope nl_rests_papers ["brick", "box"] (defScope s_rests_papers) := ⟨rfl, rfl, rfl, by decide +kernel, rfl, by decide +kernel, by decide +kernel⟩
def sp_rests (K : PySem.W.Frag) : Sp := fun vs H Q _ => ∃ (va vx : V) (a x : List Int), vs = [va, vx] ∧ Im K H va (tI a) ∧ Im K H vx (tI x) ∧ x.length ≤ a.length ∧ (∀ s ∈ a, 0 < s) ∧ x.length ≤ 1000 ∧ RetL K H Q ((rst a x).map .int)
theorem ok_rests_papers (T : Txt K mg) : FnOk P w K mg base CX0 1 (He.ga K "rests_papers") (fdA K (He.ga K "rests_papers")) ["brick", "box"] (sp_rests K) := by
  refine T.f_rests_papers.ok sc_rests_papers (fun vs H Q E h => ?_) (fun cdv A outer s H vs Q E hr h => ?_)
  · obtain ⟨va, vx, a, x, rfl, ia, ix, hl, hp, h9, k⟩ := h
    rfl
  · have nd := sc_rests_papers.nd
    have hu := hr.units
    obtain ⟨va, vx, a, x, rfl, ia, ix, hl, hp, h9, k⟩ := h
    refine ⟨_, PSs.nox (pss_one (ps_ret (pe_lc (own := [("axis", 2), ("side", 3)]) rfl nd (piE (K := K) rfl (by rfl) T.n_enumerate (pa_cons (pv 1) pa_nil)) (blkOk_by (N := nl_rests_papers) (sc := defScope s_rests_papers) (by decide +kernel)) (fun _ _ _ _ _ => (pgT (K := K) (n := 2) rfl rfl (pgs_cons (pg_name (i := 2) nd rfl (Or.inl rfl)) (pgs_cons (pg_name (i := 3) nd rfl (Or.inl rfl)) pgs_nil)))) (fun _ _ _ _ _ => (pts_one (pt_cmpR op_ne (pe_op op_mod (pv 3) (pe_ix (ixT (K := K) rfl) (pv 0) (pv 2) (fun _ _ => rfl))) pe_int (nomark _)))) (fun _ _ _ _ _ => (pv 2))))), ?_⟩
    refine sretL (K := K) (DL.is (dlcE (ds := x.map .int) (fun i => decide (x.getD i 0 % a.getD i 1 ≠ 0)) (fun i => .int ((i : Nat) : Int)) (dv rfl ix) (by simp; omega) (fun _ _ => rfl) (fun i y d H1 k1 hd hy => ?_) (fun i y d H1 k1 hd hy hf => ?_)) ?_) k
    · obtain ⟨s1, hs, rfl⟩ := getMap hd
      have hi : i < x.length := (List.getElem?_eq_some_iff.mp hs).1
      have h2 : a[i]? = some (a[i]'(by omega)) := get_lt (by omega)
      refine dtv (K := K) (DE.is (dne (dI (dv rfl hy) (dix (dv rfl (ia.kp k1)) (dv rfl (.int _)) (atMap .int h2)) (hp _ (List.getElem_mem _))) dint rfl rfl rfl) ?_)
      rw [getD_of hs, getD_of h2]; simp
    · exact dv rfl (.int _)
    · simp only [List.length_map]; exact rst_gv a x

end
end TB
/-! == of data -/
namespace TB
open PySem PySem.Spec PyProof.Rows L2
theorem eqvAll_ints : ∀ l m : List Int, PyData.eqvAll (l.map .int) (m.map .int) = decide (l = m)
  | [], [] => by simp [PyData.eqvAll]
  | [], _ :: _ => by simp [PyData.eqvAll]
  | _ :: _, [] => by simp [PyData.eqvAll]
  | i :: l, j :: m => by
    have := eqvAll_ints l m
    simp only [List.map_cons, PyData.eqvAll, PyData.eqv, this]
    by_cases h : i = j <;> by_cases h2 : l = m <;> simp [h, h2]
theorem canAll_ints : ∀ l : List Int, PyData.canLayAll0 (l.map .int) = true
  | [] => by simp [PyData.canLayAll0]
  | i :: l => by simp [PyData.canLayAll0, PyData.canLay0, canAll_ints l]
theorem depth_ints : ∀ l : List Int, PyData.depthAll (l.map .int) = 0
  | [] => by simp [PyData.depthAll]
  | i :: l => by simp [PyData.depthAll, PyData.depth, depth_ints l]
theorem shaped_ints (l : List Int) : SeqAt.shaped (.list (l.map .int)) = true := by
  simp [SeqAt.shaped, PyData.canLay0, PyData.depth, canAll_ints, depth_ints]
theorem shaped_tI (l : List Int) : SeqAt.shaped (tI l) = true := by
  simp [tI, SeqAt.shaped, PyData.canLay0, PyData.depth, canAll_ints, depth_ints]
theorem eqv_intsL (l m : List Int) : PyData.eqv (.list (l.map .int)) (.list (m.map .int)) = decide (l = m) := by
  simp only [PyData.eqv, eqvAll_ints]
theorem shaped_nil : SeqAt.shaped (.list []) = true := by simp [SeqAt.shaped, PyData.canLay0, PyData.canLayAll0, PyData.depth, PyData.depthAll]
theorem eqv_nil (ds : List PyData) : PyData.eqv (.list ds) (.list []) = decide (ds = []) := by
  cases ds <;> simp [PyData.eqv, PyData.eqvAll]
end TB
namespace TB
open PySem PySem.Spec PyProof.Rows L2
theorem canAll_of : ∀ {ds : List PyData}, (∀ d ∈ ds, d.canLay0 = true) → PyData.canLayAll0 ds = true
  | [], _ => by simp [PyData.canLayAll0]
  | d :: ds, h => by
    rw [PyData.canLayAll0, h d (by simp), canAll_of fun e he => h e (by simp [he])]; rfl
theorem depthAll_of {n : Nat} : ∀ {ds : List PyData}, (∀ d ∈ ds, d.depth ≤ n) → PyData.depthAll ds ≤ n
  | [], _ => by simp [PyData.depthAll]
  | d :: ds, h => by
    rw [PyData.depthAll]
    exact Nat.max_le.mpr ⟨h d (by simp), depthAll_of fun e he => h e (by simp [he])⟩
theorem shaped_list {ds : List PyData} (h : ∀ d ∈ ds, d.canLay0 = true ∧ d.depth ≤ 60) : SeqAt.shaped (.list ds) = true := by
  have h1 := canAll_of fun d hd => (h d hd).1
  have h2 := depthAll_of (n := 60) fun d hd => (h d hd).2
  simp [SeqAt.shaped, PyData.canLay0, PyData.depth, h1]; omega
theorem shaped_tup {ds : List PyData} (h : ∀ d ∈ ds, d.canLay0 = true ∧ d.depth ≤ 60) : SeqAt.shaped (.tuple ds) = true := by
  have h1 := canAll_of fun d hd => (h d hd).1
  have h2 := depthAll_of (n := 60) fun d hd => (h d hd).2
  simp [SeqAt.shaped, PyData.canLay0, PyData.depth, h1]; omega
section
variable {K : PySem.W.Frag} {σ : L2.St} {H : Hp} {ta : TE} {d : PyData} {ds : List PyData}
/-- (a new list)[i] -/
theorem dixL {i : Int} (ha : ∀ H1, Kp [] H H1 → ∀ Q : VK, (∀ p H2 xs, Kp [] H1 H2 → H1 p = none → H2 p = some (.lst xs) → ImAll K H2 xs ds → Q (.ref p) H2) → ta σ H1 Q) (hi : ∀ {H2 : Hp} {xs : List V}, ImAll K H2 xs ds → ∃ v, atI xs i = some v ∧ Im K H2 v d) :
    ∀ H1, Kp [] H H1 → ∀ Q : VK, (∀ v H2, Kp [] H1 H2 → Im K H2 v d → Q v H2) → tOp (rIxL K) ta (tC (.int i)) σ H1 Q := fun H1 k Q q =>
  ha H1 k _ fun p H2 xs k2 _ h2 h3 => by
    obtain ⟨v, h4, h5⟩ := hi h3
    exact ⟨p, xs, i, v, rfl, rfl, .of h2, h4, q v H2 k2 h5⟩
end
end TB

/-! slices and sums of tuples, in of lists of ints -/
namespace TB
open PySem PySem.Spec PyProof.Rows L2
theorem slA {X : Cx} {K : PySem.W.Frag} (h : X.K = K) : SlR X (rSlA K) := h ▸ sl_tupA
theorem opCatA {X : Cx} {K : PySem.W.Frag} (h : X.K = K) : OpR X (binaryOp .Add) (rCatA K) := h ▸ op_catA
def cutD {α : Type} (ds : List α) (lo hi : Option Int) : List α := (ds.drop (HT.sIx ds.length 0 lo)).take (HT.sIx ds.length ds.length hi - HT.sIx ds.length 0 lo)
theorem cutD_map {α β : Type} (f : α → β) (l : List α) (lo hi : Option Int) : cutD (l.map f) lo hi = (cutD l lo hi).map f := by
  unfold cutD; simp [List.map_drop, List.map_take]
section
variable {K : PySem.W.Frag} {σ : L2.St} {H : Hp} {ta tb : TE} {tl th : TO} {ds es : List PyData}
theorem ImAll.cut {H : Hp} {xs : List V} (h : ImAll K H xs ds) (lo hi : Option Int) : ImAll K H (cutV xs lo hi) (cutD ds lo hi) := by
  unfold cutV cutD
  rw [h.len]
  exact (h.drop _).take _
theorem dslT {lo hi : Option Int} (ha : DE K ta σ H (.tuple ds)) (hl : DO tl σ H lo) (hh : DO th σ H hi) : DE K (tSl (rSlA K) ta tl th) σ H (.tuple (cutD ds lo hi)) := fun H1 k Q q =>
  ha H1 k _ fun v H2 k2 h2 => hl H2 (k.trans k2) _ fun H3 k3 => hh H3 (k.trans (k2.trans k3)) _ fun H4 k4 => by
    have k24 := k3.trans k4
    have kk := k2.trans k24
    obtain ⟨a, xs, rfl, h4, h5⟩ := (h2.kp k24).tupI
    refine ⟨a, xs, rfl, h4, fun w => ?_, fun _ p np => ?_⟩
    · have e : cutD ds lo hi = ds := by
        unfold cutD
        rw [h5.len] at w
        rw [w.1, w.2]; simp
      rw [e] at q
      exact q _ H4 kk (.tup h4 h5)
    · have kn : Kp [] H4 (upd H4 p (.tup (cutV xs lo hi))) := .new np
      exact q _ _ (kk.trans kn) (.tup (.of upd_same) ((h5.cut lo hi).kp kn))
theorem dslL {lo hi : Option Int} {i : Nat} {p : Addr} {xs : List V} (hv : σ[i]? = some (some (.ref p))) (hp : SqL K H p xs) (hx : ImAll K H xs ds) (hl : DO tl σ H lo) (hh : DO th σ H hi) : DL K (tSl (rSlL K) (tVar i) tl th) σ H (cutD ds lo hi) := fun H1 k Q q =>
  ⟨_, hv, hl H1 k _ fun H3 k3 => hh H3 (k.trans k3) _ fun H4 k4 => by
    have k24 := k3.trans k4
    refine ⟨p, xs, rfl, (k.trans k24).sqL hp, fun p np => ?_⟩
    have kn : Kp [] H4 (upd H4 p (.lst (cutV xs lo hi))) := .new np
    exact q _ _ _ (k24.trans kn) (k24.free np) upd_same ((hx.cut lo hi).kp ((k.trans k24).trans kn))⟩
theorem dcat (ha : DE K ta σ H (.tuple ds)) (hb : DE K tb σ H (.tuple es)) (hn : ds.length + es.length ≤ 100000) : DE K (tOp (rCatA K) ta tb) σ H (.tuple (ds ++ es)) := fun H1 k Q q =>
  ha H1 k _ fun v H2 k2 h2 => hb H2 (k.trans k2) _ fun w H3 k3 h3 => by
    have kk := k2.trans k3
    obtain ⟨a, xs, rfl, h4, h5⟩ := (h2.kp k3).tupI
    obtain ⟨b, ys, rfl, h6, h7⟩ := h3.tupI
    refine ⟨a, b, xs, ys, rfl, rfl, h4, h6, by rw [h5.len, h7.len]; exact Evl.sz_of hn, fun e => ?_, fun _ e => ?_, fun _ _ p np => ?_⟩
    · subst e
      cases h5
      exact q _ H3 kk (.tup h6 h7)
    · subst e
      cases h7
      rw [List.append_nil] at q
      exact q _ H3 kk (.tup h4 h5)
    · have kn : Kp [] H3 (upd H3 p (.tup (xs ++ ys))) := .new np
      exact q _ _ (kk.trans kn) (.tup (.of upd_same) ((h5.kp kn).app (h7.kp kn)))
theorem inV_ints (i : Int) (l : List Int) : inV (.int i) (l.map V.int) = decide (i ∈ l) := by
  unfold inV
  induction l with
  | nil => simp
  | cons j l ih =>
    rw [List.map_cons, List.any_cons, ih]
    by_cases h : i = j
    · subst h; simp [eqV]
    · have : ¬ j = i := fun e => h e.symm
      simp [eqV, h, this]
theorem dinL {i : Int} {l : List Int} (ha : DE K ta σ H (.int i)) (hb : DL K tb σ H (l.map .int)) : DE K (tOp (rIn K false) ta tb) σ H (.bool (decide (i ∈ l))) := fun H1 k Q q =>
  ha H1 k _ fun v H2 k2 h2 => hb H2 (k.trans k2) _ fun p H3 xs k3 np h3 h4 => by
    obtain rfl := h2.intI
    have e := ImAll.ints_inv l h4
    subst e
    refine ⟨p, _, rfl, .inl (.of h3), rfl, ?_, ?_⟩
    · simp [flatV]
    · exact q _ H3 (k2.trans k3) (by rw [← inV_ints]; exact .bl _)
end
end TB
namespace TB
open PySem PySem.Spec PyProof.Rows L2
section
variable {P : Program} {w : World} {K : PySem.W.Frag} {mg : Str → Option Value} {base : Heap}

theorem qcallR {sp : Sp} {dvs : List V} {E : XK} {ta : TA} {i : Nat} {σ : L2.St} {H : Hp} {ds : List PyData} {tz : TS} {D : Ends} (ha : DA K ta σ H ds) (hs : ∀ vs H1, Kp [] H H1 → ImAll K H1 vs ds → sp (vs ++ dvs) H1 (fun v H2 => tz D (σ.set i (some v)) H2) E) : tSeq (tAsg (tCall sp dvs E ta) (gName i)) tz D σ H := ha H .refl _ hs
theorem ImAll.inv2 {H : Hp} {vs : List V} {d e : PyData} (h : ImAll K H vs [d, e]) : ∃ v w, vs = [v, w] ∧ Im K H v d ∧ Im K H w e := by
  cases h with
  | cons a r =>
    cases r with
    | cons b r2 => cases r2; exact ⟨_, _, rfl, a, b⟩
theorem ImAll.inv3 {H : Hp} {vs : List V} {d e f : PyData} (h : ImAll K H vs [d, e, f]) : ∃ v w x, vs = [v, w, x] ∧ Im K H v d ∧ Im K H w e ∧ Im K H x f := by
  cases h with
  | cons a r =>
    cases r with
    | cons b r2 =>
      cases r2 with
      | cons c r3 => cases r3; exact ⟨_, _, _, rfl, a, b, c⟩
theorem ImAll.inv4 {H : Hp} {vs : List V} {d e f g : PyData} (h : ImAll K H vs [d, e, f, g]) : ∃ v w x y, vs = [v, w, x, y] ∧ Im K H v d ∧ Im K H w e ∧ Im K H x f ∧ Im K H y g := by
  cases h with
  | cons a r =>
    obtain ⟨v, w, x, rfl, h1, h2, h3⟩ := r.inv3
    exact ⟨_, _, _, _, rfl, a, h1, h2, h3⟩
theorem q3p {i j l : Nat} {σ : L2.St} {H : Hp} {d e f : PyData} {ta : TA} {tz : TS} {D : Ends} (ha : DA K ta σ H [d, e, f]) (k : ∀ u v w H1, Kp [] H H1 → Im K H1 u d → Im K H1 v e → Im K H1 w f → tz D (((σ.set i (some u)).set j (some v)).set l (some w)) H1) : tSeq (tPar3 i j l ta) tz D σ H :=
  ha H .refl _ fun vs H1 k1 h => by
    obtain ⟨u, v, w, rfl, h1, h2, h3⟩ := h.inv3
    exact ⟨u, v, w, rfl, k u v w H1 k1 h1 h2 h3⟩
theorem q2p {i j : Nat} {σ : L2.St} {H : Hp} {d e : PyData} {ta : TA} {tz : TS} {D : Ends} (ha : DA K ta σ H [d, e]) (k : ∀ u v H1, Kp [] H H1 → Im K H1 u d → Im K H1 v e → tz D ((σ.set i (some u)).set j (some v)) H1) : tSeq (tPar i j ta) tz D σ H :=
  ha H .refl _ fun vs H1 k1 h => by
    obtain ⟨u, v, rfl, h1, h2⟩ := h.inv2
    exact ⟨u, v, rfl, k u v H1 k1 h1 h2⟩
theorem ImAll.inv1 {H : Hp} {vs : List V} {d : PyData} (h : ImAll K H vs [d]) : ∃ v, vs = [v] ∧ Im K H v d := by
  cases h with
  | cons a r => cases r; exact ⟨_, rfl, a⟩
/-- the sides of a box and of its two bricks -/
structure Bx (a b x : List Int) : Prop where
  la : a.length = x.length
  lb : b.length = x.length
  l1 : 0 < x.length
  l4 : x.length ≤ 4
  pa : ∀ s ∈ a, 0 < s ∧ s ≤ 1000
  pb : ∀ s ∈ b, 0 < s ∧ s ≤ 1000
  px : ∀ s ∈ x, 0 < s ∧ s ≤ 1000
/-- the papers of two sides -/
def crs (a b x : List Int) : List PyData := (rst a x).flatMap fun i => ((rst b x).filter fun j => decide (i ≠ j)).map fun j => .tuple [.str "sides", .int i, .int j]
theorem dcRst {f : Addr} {E : XK} {σ : L2.St} {H : Hp} {ta : TA} {a x : List Int} (h : DA K ta σ H [tI a, tI x]) (hl : x.length ≤ a.length) (hp : ∀ s ∈ a, 0 < s) (h9 : x.length ≤ 1000) : DL K (tCall (sp_rests K) [] E ta) σ H ((rst a x).map .int) :=
  dcallL h fun vs H1 k1 hv Q q => by
    obtain ⟨v, w, rfl, i1, i2⟩ := hv.inv2
    exact ⟨v, w, a, x, rfl, i1, i2, hl, hp, h9, q⟩
theorem at0 {α : Type} {x y : α} : atI [x, y] 0 = some x := atI_nat (j := 0) rfl
theorem at0' {α : Type} {x : α} : atI [x] 0 = some x := atI_nat (j := 0) rfl
theorem at1 {α : Type} {x y : α} : atI [x, y] 1 = some y := atI_nat (j := 1) rfl
theorem filt_gv (l : List Int) (i : Int) (g : Int → PyData) : gv (l.map PyData.int).length (fun k => decide (i ≠ l.getD k 0)) (fun k => g (l.getD k 0)) = (l.filter fun j => decide (i ≠ j)).map g := by
  unfold gv
  have h : (List.range (l.map PyData.int).length).map (fun k => l.getD k 0) = l := by
    apply List.ext_getElem?
    intro n
    simp only [List.length_map, List.getElem?_map]
    by_cases hn : n < l.length
    · simp [List.getElem?_range hn, hn]
    · simp [Nat.not_lt.mp hn]
  have e1 : (fun k => g (l.getD k 0)) = g ∘ (fun k => l.getD k 0) := rfl
  have e2 : (fun k => decide (i ≠ l.getD k 0)) = (fun j => decide (i ≠ j)) ∘ (fun k => l.getD k 0) := rfl
  rw [e1, e2, ← List.map_map, ← List.filter_map, h]

abbrev nl_crossing : List Str := ["pair", "box", "found", "i", "j"]
theorem sc_crossing : FnScope nl_crossing ["pair", "box"] (defScope s_crossing) := ⟨rfl, rfl, rfl, by decide +kernel, rfl, by decide +kernel, by decide +kernel⟩
def sp_crossing (K : PySem.W.Frag) : Sp := fun vs H Q _ => ∃ (vp vx : V) (a b x : List Int), vs = [vp, vx] ∧ Im K H vp (pairD (a, b)) ∧ Im K H vx (tI x) ∧ Bx a b x ∧ RetL K H Q (crs a b x)
theorem ok_crossing (T : Txt K mg) : FnOk P w K mg base CX0 2 (He.ga K "crossing") (fdA K (He.ga K "crossing")) ["pair", "box"] (sp_crossing K) := by
  refine T.f_crossing.ok sc_crossing (fun vs H Q E h => ?_) (fun cdv A outer s H vs Q E hr h => ?_)
  · obtain ⟨vp, vx, a, b, x, rfl, ip, ix, B, k⟩ := h
    rfl
  · have nd := sc_crossing.nd
    have hu := hr.units
    obtain ⟨vp, vx, a, b, x, rfl, ip, ix, B, k⟩ := h
    refine ⟨_, PSs.nox (pss_cons (ps_set (i := 2) nd rfl (Or.inl rfl) (pe_lst pa_nil))
      (pss_cons (ps_for PassesOwn.never rfl (piL (K := K) rfl (pe_call (ok_rests_papers T) (hr.mono (by decide)) (by rfl) T.g_rests_papers (T.f_rests_papers.kp) (T.b_rests_papers) .nil pass0 (pa_cons (pe_ix (ixT (K := K) rfl) (pv 0) pe_int (fun _ _ => rfl)) (pa_cons (pv 1) pa_nil)))) (pg_name (i := 3) nd rfl (Or.inr rfl)) (pss_one (ps_expr (pe_bm PySem.F.plainAttrs_list PySem.F.slot_list_extend PySem.F.type_list_extend mt_extend (pv 2) (pa_cons (pe_lc (own := [("j", 4)]) rfl nd (piL (K := K) rfl (pe_call (ok_rests_papers T) (hr.mono (by decide)) (by rfl) T.g_rests_papers (T.f_rests_papers.kp) (T.b_rests_papers) .nil pass0 (pa_cons (pe_ix (ixT (K := K) rfl) (pv 0) pe_int (fun _ _ => rfl)) (pa_cons (pv 1) pa_nil)))) (blkOk_by (N := nl_crossing) (sc := defScope s_crossing) (by decide +kernel)) (fun _ _ _ _ _ => (pg_name (i := 4) nd rfl (Or.inl rfl))) (fun _ _ _ _ _ => (pts_one (pt_cmpR op_ne (pv 3) (pv 4) (nomark _)))) (fun _ _ _ _ _ => (pe_tup (pa_cons (pe_glob (v := .str "sides") rfl T.c_SIDES.choose_spec ⟨_, rfl⟩) (pa_cons (pv 3) (pa_cons (pv 4) pa_nil)))))) pa_nil)))))
      (pss_one (ps_ret (pv 2))))), ?_⟩
    refine ⟨Nat.zero_le _, fun p np => ?_⟩
    have k0 : Kp [] H (upd H p (.lst [])) := .new np
    have hla := B.la
    have hlb := B.lb
    have hl4 := B.l4
    refine (dcRst (f := 0) (a := a) (x := x) (dacons (dix (dv rfl (ip.kp k0)) dint at0) (dacons (dv rfl (ix.kp k0)) danil)) (by omega) (fun s hs => (B.pa s hs).1) (by omega)) _ .refl _ fun l H1 xs k1 nl hl hxs => ?_
    have exs := ImAll.ints_inv _ hxs
    subst exs
    refine ⟨l, rfl, ⟨_, .of hl⟩, for_list (K := K) (a := l) (xs := (rst a x).map V.int) (fun n σ H' => ∃ (y z : Option V) (acc : List V), σ = [some vp, some vx, some (.ref p), y, z] ∧ Kp [] H H' ∧ H' l = some (.lst ((rst a x).map V.int)) ∧ p ≠ l ∧ H' p = some (.lst acc) ∧ acc.length ≤ 4 * n ∧
      ImAll K H' acc (((rst a x).take n).flatMap fun i => ((rst b x).filter fun j => decide (i ≠ j)).map fun j => .tuple [.str "sides", .int i, .int j])) ?_ ?_ ?_ ?_⟩
    · exact ⟨none, none, [], rfl, k0.trans k1, hl, (ne_of_none (upd_same (H := H)) nl), k1.get upd_same, by simp, .nil⟩
    · rintro n σ H' _ ⟨_, _, _, _, _, h, _⟩
      exact .of h
    · rintro n y σ H' hy ⟨y0, z0, acc, rfl, kH, hl', npl, hp', hacc, him⟩
      have hn : n < (rst a x).length := by have := (List.getElem?_eq_some_iff.mp hy).1; simpa using this
      have hy' : (rst a x)[n]? = some ((rst a x)[n]) := get_lt hn
      have ey : y = .int ((rst a x)[n]) := by rw [List.getElem?_map, hy'] at hy; exact (Option.some.inj hy).symm
      subst ey
      generalize hi : (rst a x)[n] = i at *
      refine ⟨_, rfl, .inl ⟨rfl, _, .of hp'⟩, ?_⟩
      refine (DL.is (dlcN (ds := (rst b x).map .int) (fun k => decide (i ≠ (rst b x).getD k 0)) (fun k => .tuple [.str "sides", .int i, .int ((rst b x).getD k 0)])
        (dcRst (f := 0) (a := b) (x := x) (dacons (dix (dv rfl (ip.kp kH)) dint at1) (dacons (dv rfl (ix.kp kH)) danil)) (by omega) (fun s hs => (B.pb s hs).1) (by omega)) (by have := rst_len b x; simp; omega) (fun _ => rfl) (fun k v d H2 k2 hd hv => ?_) (fun k v d H2 k2 hd hv hf => ?_)) (filt_gv (rst b x) i fun j => .tuple [.str "sides", .int i, .int j])) _ .refl _ fun q H2 ws k2 nq hq hws => ?_
      · obtain ⟨s1, hs, rfl⟩ := getMap hd
        refine dtv (K := K) (DE.is (dne (dv rfl (.int _)) (dv rfl hv) rfl rfl rfl) ?_)
        rw [getD_of hs]; simp
      · obtain ⟨s1, hs, rfl⟩ := getMap hd
        rw [getD_of hs]
        exact dtup (dacons dstr (dacons (dv rfl (.int _)) (dacons (dv rfl hv) danil)))
      · have hwl : ws.length ≤ 4 := by
          rw [hws.len]; simp only [List.length_map]
          have h1 := List.length_filter_le (fun j => decide (i ≠ j)) (rst b x)
          have := rst_len b x; omega
        have hp2 := k2.get hp'
        have hl2 := k2.get hl'
        have kw : Kp [p] H2 (upd H2 p (.lst (acc ++ ws))) := .wl hp2 (by simp)
        refine ⟨p, q, acc, ws, rfl, rfl, hp2, hq, Evl.sz_of (by have := rst_len a x; omega), ?_⟩
        refine ⟨_, z0, acc ++ ws, rfl, (kH.trans k2).wn np, by rw [upd_ne npl.symm]; exact hl2, npl, upd_same, by rw [List.length_append]; omega, ?_⟩
        have et : (rst a x).take (n + 1) = (rst a x).take n ++ [i] := by
          rw [List.take_succ, hy']; simp [hi]
        rw [et, List.flatMap_append]
        exact ((him.kp k2).kp kw).app (by simpa using hws.kp kw)
    · rintro σ H' ⟨y0, z0, acc, rfl, kH, hl', npl, hp', hacc, him⟩
      rw [List.length_map, List.take_length] at him
      exact ⟨_, rfl, k p H' acc kH np hp' him⟩

end
end TB
namespace TB
open PySem PySem.Spec PyProof.Rows L2
section
variable {P : Program} {w : World} {K : PySem.W.Frag} {mg : Str → Option Value} {base : Heap}

/-- the numbers of a line: a side s by bricks a, b -/
def tmsOk (a b s t : Int) : Prop := 0 ≤ t ∧ t < b / (Int.gcd a b : Int) ∧ ∃ k, a * t = s + b * k
/-- what bar_along may tell -/
inductive BarP (ax a b s : Int) : PyData → Prop
  | step : s % (Int.gcd a b : Int) ≠ 0 → BarP ax a b s (.tuple [.str "step", .int ax])
  | gap (t : Int) : s % (Int.gcd a b : Int) = 0 → tmsOk a b s t → 0 < a * t - s → BarP ax a b s (.tuple [.str "gap", .int ax, .int t, .int ((a * t - s) / b)])
  | none (t : Int) : s % (Int.gcd a b : Int) = 0 → tmsOk a b s t → ¬ 0 < a * t - s → BarP ax a b s .none
theorem tms_le {a b s t : Int} (h : tmsOk a b s t) (hb : 0 < b) : 0 ≤ t ∧ t ≤ b := by
  obtain ⟨h0, h1, _⟩ := h
  have : b / (Int.gcd a b : Int) ≤ b := Int.ediv_le_self _ (Int.le_of_lt hb)
  exact ⟨h0, by omega⟩

abbrev nl_bar_along : List Str := ["pair", "box", "axis", "one", "other", "side", "times", "more"]
theorem sc_bar_along : FnScope nl_bar_along ["pair", "box", "axis"] (defScope s_bar_along) := ⟨rfl, rfl, rfl, by decide +kernel, rfl, by decide +kernel, by decide +kernel⟩
def sp_bar_along (K : PySem.W.Frag) : Sp := fun vs H Q _ => ∃ (vp vx : V) (a b x : List Int) (ax : Nat) (A B S : Int), vs = [vp, vx, .int (ax : Int)] ∧ Im K H vp (pairD (a, b)) ∧ Im K H vx (tI x) ∧ Bx a b x ∧ a[ax]? = some A ∧ b[ax]? = some B ∧ x[ax]? = some S ∧
  ∀ d, BarP (ax : Int) A B S d → Ret K H Q d
theorem ok_bar_along (T : Txt K mg) : FnOk P w K mg base CX0 3 (He.ga K "bar_along") (fdA K (He.ga K "bar_along")) ["pair", "box", "axis"] (sp_bar_along K) := by
  refine T.f_bar_along.ok sc_bar_along (fun vs H Q E h => ?_) (fun cdv A outer s H vs Q E hr h => ?_)
  · obtain ⟨vp, vx, a, b, x, ax, A1, B1, S, rfl, ip, ix, Bb, hA, hB, hS, k⟩ := h
    rfl
  · have nd := sc_bar_along.nd
    have hu := hr.units
    obtain ⟨vp, vx, a, b, x, ax, A1, B1, S, rfl, ip, ix, Bb, hA, hB, hS, k⟩ := h
    refine ⟨_, PSs.nox (pss_cons (ps_par3 (i := 3) (j := 4) (l := 5) rfl nd rfl rfl rfl (by decide) (by decide) (by decide) rfl rfl rfl (pa_cons (pe_ix (ixT (K := K) rfl) (pe_ix (ixT (K := K) rfl) (pv 0) pe_int (fun _ _ => rfl)) (pv 2) (fun _ _ => rfl)) (pa_cons (pe_ix (ixT (K := K) rfl) (pe_ix (ixT (K := K) rfl) (pv 0) pe_int (fun _ _ => rfl)) (pv 2) (fun _ _ => rfl)) (pa_cons (pe_ix (ixT (K := K) rfl) (pv 1) (pv 2) (fun _ _ => rfl)) pa_nil))) (by rfl))
      (pss_cons (ps_set (i := 6) nd rfl (Or.inl rfl) (pe_call (ok_least_times T) (hr.mono (by decide)) (by rfl) T.g_least_times (T.f_least_times.kp) (T.b_least_times) .nil pass0 (pa_cons (pv 3) (pa_cons (pv 4) (pa_cons (pv 5) pa_nil)))))
      (pss_cons (ps_if (pt_cmpR op_isN (pv 6) pe_non (nomark _)) (pss_one (ps_ret (pe_tup (pa_cons (pe_glob (v := .str "step") rfl T.c_STEP.choose_spec ⟨_, rfl⟩) (pa_cons (pv 2) pa_nil))))) pss_nil)
      (pss_cons (ps_set (i := 7) nd rfl (Or.inl rfl) (pe_op op_sub (pe_op op_mul (pv 3) (pv 6)) (pv 5)))
      (pss_one (ps_ret (pe_ifExp (pt_cmpR op_gt (pv 7) pe_int (nomark _)) (pe_tup (pa_cons (pe_glob (v := .str "gap") rfl T.c_GAP.choose_spec ⟨_, rfl⟩) (pa_cons (pv 2) (pa_cons (pv 6) (pa_cons (pe_op op_fdivW (pv 7) (pv 4)) pa_nil))))) pe_non))))))), ?_⟩
    have a1 : DE K (tVar 0) (L2.start nl_bar_along [vp, vx, .int (ax : Int)]) H (pairD (a, b)) := dv rfl ip
    refine q3p (K := K) (dacons (dix (dix a1 dint at0) (dv rfl (.int _)) (atMap .int hA)) (dacons (dix (dix a1 dint at1) (dv rfl (.int _)) (atMap .int hB)) (dacons (dix (dv rfl ix) (dv rfl (.int _)) (atMap .int hS)) danil))) fun v1 v2 v3 H1 k1 i1 i2 i3 => ?_
    obtain rfl := i1.intI
    obtain rfl := i2.intI
    obtain rfl := i3.intI
    have hA' := Bb.pa A1 (List.mem_of_getElem? hA)
    have hB' := Bb.pb B1 (List.mem_of_getElem? hB)
    have hS' := Bb.px S (List.mem_of_getElem? hS)
    refine qcallR (K := K) (ds := [.int A1, .int B1, .int S]) (dacons (dv rfl (.int _)) (dacons (dv rfl (.int _)) (dacons (dv rfl (.int _)) danil))) fun vs H2 k2 him => ?_
    obtain ⟨v1, v2, v3, rfl, i1, i2, i3⟩ := him.inv3
    obtain rfl := i1.intI
    obtain rfl := i2.intI
    obtain rfl := i3.intI
    refine ⟨A1, B1, S, rfl, hA'.1, hB'.1, (by omega), (by omega), fun hg H3 k3 => ?_, fun hg t t0 t1 tk H3 k3 => ?_⟩
    · refine qif (b := true) (dtv (K := K) (DE.is (disN (dv rfl .non)) rfl)) (fun _ H4 k4 => ?_) (fun e => nomatch e)
      exact sret (K := K) (dtup (dacons dstr (dacons (dv rfl (.int _)) danil))) (fun v H5 k5 => k _ (.step hg) v H5 ((k1.trans k2).trans ((k3.trans k4).trans k5)))
    · have tm : tmsOk A1 B1 S t := ⟨t0, t1, tk⟩
      have tl := tms_le tm hB'.1
      refine qif (b := false) (dtv (K := K) (DE.is (disN (dv rfl (.int _))) rfl)) (fun e => nomatch e) (fun _ H4 k4 => ?_)
      refine qasg (K := K) (dI0 (dI (dv rfl (.int _)) (dv rfl (.int _)) (.inl ⟨by omega, by omega⟩)) (dv rfl (.int _))) fun v H5 k5 hv => ?_
      obtain rfl := hv.intI
      have kk := (k1.trans k2).trans ((k3.trans k4).trans k5)
      by_cases c : 0 < A1 * t - S
      · exact sret (K := K) (dif (b := true) (dtv (K := K) (DE.is (dB0 (dv rfl (.int _)) dint) (congrArg PyData.bool (decide_eq_true c)))) (fun _ => dtup (dacons dstr (dacons (dv rfl (.int _)) (dacons (dv rfl (.int _)) (dacons (dI (dv rfl (.int _)) (dv rfl (.int _)) (wide_div hB'.1 (b := 40) (by omega) (by decide) (by decide))) danil))))) (fun e => nomatch e)) (fun v H6 k6 => k _ (.gap t hg tm c) v H6 (kk.trans k6))
      · exact sret (K := K) (dif (b := false) (dtv (K := K) (DE.is (dB0 (dv rfl (.int _)) dint) (congrArg PyData.bool (decide_eq_false c)))) (fun e => nomatch e) (fun _ => dnon)) (fun v H6 k6 => k _ (.none t hg tm c) v H6 (kk.trans k6))


/-- what paper may tell -/
inductive PaperP (a b x : List Int) : PyData → Prop
  | all0 : rst a x = [] → PaperP a b x (.tuple [.str "cut", .int 0, .int 0, .int (x.getD 0 0)])
  | all1 : rst a x ≠ [] → rst b x = [] → PaperP a b x (.tuple [.str "cut", .int 1, .int 0, .int (x.getD 0 0)])
  | sides (i j : Int) : i ∈ rst a x → j ∈ rst b x → i ≠ j → PaperP a b x (.tuple [.str "sides", .int i, .int j])
  | bar (ax : Nat) (A B S : Int) (d : PyData) : rst a x = [(ax : Int)] → rst b x = [(ax : Int)] → a[ax]? = some A → b[ax]? = some B → x[ax]? = some S → d ≠ .none → BarP (ax : Int) A B S d → PaperP a b x d
  | cut (ax : Nat) (A B S t : Int) : rst a x = [(ax : Int)] → rst b x = [(ax : Int)] → a[ax]? = some A → b[ax]? = some B → x[ax]? = some S → S % (Int.gcd A B : Int) = 0 → tmsOk A B S t → ¬ 0 < A * t - S → PaperP a b x (.tuple [.str "cut", .int 0, .int (ax : Int), .int (A * t)])
theorem rst_in {a x : List Int} {i : Int} (h : i ∈ rst a x) : ∃ k : Nat, i = (k : Int) ∧ k < x.length := by
  unfold rst rstN at h
  obtain ⟨k, hk, e⟩ := List.mem_map.mp h
  have h2 := (List.mem_filter.mp hk).1
  exact ⟨k, e.symm, by simpa using h2⟩
theorem crs_nil {a b x : List Int} (h : crs a b x = []) : ∀ i ∈ rst a x, ∀ j ∈ rst b x, i = j := by
  intro i hi j hj
  by_cases c : i = j
  · exact c
  · exfalso
    unfold crs at h
    have := List.flatMap_eq_nil_iff.mp h i hi
    rw [List.map_eq_nil_iff, List.filter_eq_nil_iff] at this
    exact this j hj (by simp [c])
theorem crs_head {a b x : List Int} {d : PyData} {r : List PyData} (h : crs a b x = d :: r) : ∃ i j, i ∈ rst a x ∧ j ∈ rst b x ∧ i ≠ j ∧ d = .tuple [.str "sides", .int i, .int j] := by
  have hd : d ∈ crs a b x := by rw [h]; simp
  unfold crs at hd
  obtain ⟨i, hi, h2⟩ := List.mem_flatMap.mp hd
  obtain ⟨j, hj, e⟩ := List.mem_map.mp h2
  obtain ⟨h3, h4⟩ := List.mem_filter.mp hj
  exact ⟨i, j, hi, h3, by simpa using h4, e.symm⟩
theorem rst_nodup (a x : List Int) : (rst a x).Nodup := by
  unfold rst rstN
  exact List.Pairwise.map _ (fun i j h e => h (Int.ofNat.inj e)) (List.nodup_range.filter _)
theorem two_same {l m : List Int} (hl : l ≠ []) (hm : m ≠ []) (nl : l.Nodup) (nm : m.Nodup) (h : ∀ i ∈ l, ∀ j ∈ m, i = j) : ∃ z, l = [z] ∧ m = [z] := by
  cases l with
  | nil => exact absurd rfl hl
  | cons z l =>
    cases m with
    | nil => exact absurd rfl hm
    | cons y m =>
      have e : z = y := h z (by simp) y (by simp)
      subst e
      have e1 : l = [] := by
        cases l with
        | nil => rfl
        | cons q l =>
          have := h q (by simp) z (by simp)
          subst this
          simp at nl
      have e2 : m = [] := by
        cases m with
        | nil => rfl
        | cons q m =>
          have := h z (by simp) q (by simp)
          subst this
          simp at nm
      subst e1; subst e2
      exact ⟨z, rfl, rfl⟩
theorem shaped_crs (a b x : List Int) : SeqAt.shaped (.list (crs a b x)) = true := shaped_list fun d hd => by
  unfold crs at hd
  obtain ⟨i, hi, h2⟩ := List.mem_flatMap.mp hd
  obtain ⟨j, hj, rfl⟩ := List.mem_map.mp h2
  constructor
  · simp [PyData.canLay0, PyData.canLayAll0]; decide +kernel
  · simp [PyData.depth, PyData.depthAll]
theorem map_int_nil {l : List Int} : (l.map PyData.int = []) ↔ l = [] := List.map_eq_nil_iff

abbrev nl_paper_papers : List Str := ["pair", "box", "kind", "brick", "crossed", "axis", "bar"]
theorem sc_paper_papers : FnScope nl_paper_papers ["pair", "box"] (defScope s_paper_papers) := ⟨rfl, rfl, rfl, by decide +kernel, rfl, by decide +kernel, by decide +kernel⟩
def sp_paper (K : PySem.W.Frag) : Sp := fun vs H Q _ => ∃ (vp vx : V) (a b x : List Int), vs = [vp, vx] ∧ Im K H vp (pairD (a, b)) ∧ Im K H vx (tI x) ∧ Bx a b x ∧ ∀ d, PaperP a b x d → Ret K H Q d
theorem ok_paper_papers (T : Txt K mg) : FnOk P w K mg base CX0 4 (He.ga K "paper_papers") (fdA K (He.ga K "paper_papers")) ["pair", "box"] (sp_paper K) := by
  refine T.f_paper_papers.ok sc_paper_papers (fun vs H Q E h => ?_) (fun cdv A outer s H vs Q E hr h => ?_)
  · obtain ⟨vp, vx, a, b, x, rfl, ip, ix, B, k⟩ := h
    rfl
  · have nd := sc_paper_papers.nd
    have hu := hr.units
    obtain ⟨vp, vx, a, b, x, rfl, ip, ix, B, k⟩ := h
    refine ⟨_, PSs.nox (pss_cons (ps_for PassesOwn.never rfl (piE (K := K) rfl (by rfl) T.n_enumerate (pa_cons (pv 0) pa_nil)) (pgT (K := K) (n := 2) rfl rfl (pgs_cons (pg_name (i := 2) nd rfl (Or.inl rfl)) (pgs_cons (pg_name (i := 3) nd rfl (Or.inl rfl)) pgs_nil))) (pss_one (ps_if (pt_cmpR (opEqD (K := K) rfl hu) (pe_call (ok_rests_papers T) (hr.mono (by decide)) (by rfl) T.g_rests_papers (T.f_rests_papers.kp) (T.b_rests_papers) .nil pass0 (pa_cons (pv 3) (pa_cons (pv 1) pa_nil))) (pe_lst pa_nil) (nomark _)) (pss_one (ps_ret (pe_tup (pa_cons (pe_glob (v := .str "cut") rfl T.c_CUT.choose_spec ⟨_, rfl⟩) (pa_cons (pv 2) (pa_cons pe_int (pa_cons (pe_ix (ixT (K := K) rfl) (pv 1) pe_int (fun _ _ => rfl)) pa_nil))))))) pss_nil)))
      (pss_cons (ps_set (i := 4) nd rfl (Or.inl rfl) (pe_call (ok_crossing T) (hr.mono (by decide)) (by rfl) T.g_crossing (T.f_crossing.kp) (T.b_crossing) .nil pass0 (pa_cons (pv 0) (pa_cons (pv 1) pa_nil))))
      (pss_cons (ps_if (pt_cmpR (opNeD (K := K) rfl hu) (pv 4) (pe_lst pa_nil) (nomark _)) (pss_one (ps_ret (pe_ix (ixL (K := K) rfl) (pv 4) pe_int (fun _ _ => rfl)))) pss_nil)
      (pss_cons (ps_set (i := 5) nd rfl (Or.inl rfl) (pe_ix (ixL (K := K) rfl) (pe_call (ok_rests_papers T) (hr.mono (by decide)) (by rfl) T.g_rests_papers (T.f_rests_papers.kp) (T.b_rests_papers) .nil pass0 (pa_cons (pe_ix (ixT (K := K) rfl) (pv 0) pe_int (fun _ _ => rfl)) (pa_cons (pv 1) pa_nil))) pe_int (fun _ _ => rfl)))
      (pss_cons (ps_set (i := 6) nd rfl (Or.inl rfl) (pe_call (ok_bar_along T) (hr.mono (by decide)) (by rfl) T.g_bar_along (T.f_bar_along.kp) (T.b_bar_along) .nil pass0 (pa_cons (pv 0) (pa_cons (pv 1) (pa_cons (pv 5) pa_nil)))))
      (pss_cons (ps_if (pt_cmpR op_notN (pv 6) pe_non (nomark _)) (pss_one (ps_ret (pv 6))) pss_nil)
      (pss_one (ps_ret (pe_tup (pa_cons (pe_glob (v := .str "cut") rfl T.c_CUT.choose_spec ⟨_, rfl⟩) (pa_cons pe_int (pa_cons (pv 5) (pa_cons (pe_op op_mul (pe_ix (ixT (K := K) rfl) (pe_ix (ixT (K := K) rfl) (pv 0) pe_int (fun _ _ => rfl)) (pv 5) (fun _ _ => rfl)) (pe_call (ok_least_times T) (hr.mono (by decide)) (by rfl) T.g_least_times (T.f_least_times.kp) (T.b_least_times) .nil pass0 (pa_cons (pe_ix (ixT (K := K) rfl) (pe_ix (ixT (K := K) rfl) (pv 0) pe_int (fun _ _ => rfl)) (pv 5) (fun _ _ => rfl)) (pa_cons (pe_ix (ixT (K := K) rfl) (pe_ix (ixT (K := K) rfl) (pv 0) pe_int (fun _ _ => rfl)) (pv 5) (fun _ _ => rfl)) (pa_cons (pe_ix (ixT (K := K) rfl) (pv 1) (pv 5) (fun _ _ => rfl)) pa_nil))))) pa_nil))))))))))))), ?_⟩
    have hla := B.la
    have hlb := B.lb
    have hl1 := B.l1
    have hl4 := B.l4
    have hx0 : x[0]? = some (x.getD 0 0) := by rw [List.getD_eq_getElem?_getD, get_lt hl1]; rfl
    obtain ⟨pp, qa, qb, rfl, sp, sa, sb⟩ := ip.pair
    refine ⟨_, rfl, pp, _, rfl, sp, ?_⟩
    refine for_it (walk_enT (xs := [.ref qa, .ref qb])) (fun n σ H' => ∃ y z : Option V, σ = [some (.ref pp), some vx, y, z, none, none, none] ∧ Kp [] H H' ∧ (1 ≤ n → rst a x ≠ []) ∧ (2 ≤ n → rst b x ≠ []))
      ⟨none, none, rfl, .refl, by omega, by omega⟩ (fun n σ H' _ ⟨_, _, _, k1, _⟩ => k1.sqT sp) ?_ ?_
    · rintro n y σ H1 H2 hn ⟨y0, z0, rfl, k1, h1, h2⟩ ⟨Tt, x1, x2, rfl, hT, rfl, e1, e2⟩
      cases e1
      have kT : Kp [] H1 (upd H1 Tt (.tup [.int (n : Nat), x2])) := .new hT
      refine ⟨Tt, [.int (n : Nat), x2], rfl, .of upd_same, rfl, _, _, rfl, _, _, rfl, rfl, ?_⟩
      have kk := k1.trans kT
      have step : ∀ (c : List Int), Im K H x2 (tI c) → x.length ≤ c.length → (∀ s ∈ c, 0 < s) → (rst c x = [] → PaperP a b x (.tuple [.str "cut", .int (n : Nat), .int 0, .int (x.getD 0 0)])) → (rst c x ≠ [] → ((1 ≤ n + 1 → rst a x ≠ []) ∧ (2 ≤ n + 1 → rst b x ≠ []))) →
        (tIfS (tTest (tOp (rEqD K) (tCall (sp_rests K) [] E0 (tCons (tVar 3) (tCons (tVar 1) tNil))) (tLst tNil))) (tRet (tTup (tCons (tC (.str "cut")) (tCons (tVar 2) (tCons (tC (.int 0)) (tCons (tOp (rIxT K) (tVar 1) (tC (.int 0))) tNil)))))) tNext)
          { nx := fun σ H' => ∃ y z : Option V, σ = [some (.ref pp), some vx, y, z, none, none, none] ∧ Kp [] H H' ∧ (1 ≤ n + 1 → rst a x ≠ []) ∧ (2 ≤ n + 1 → rst b x ≠ []), rt := Q, bk := fun _ _ => False, ct := fun _ _ => False }
          [some (.ref pp), some vx, some (.int (n : Nat)), some x2, none, none, none] (upd H1 Tt (.tup [.int (n : Nat), x2])) := by
        intro c hc hcl hcp hy hn2
        refine sif (b := decide (rst c x = [])) (dtv (K := K) (DE.is (dEL (dcRst (f := 0) (dacons (dv rfl (hc.kp kk)) (dacons (dv rfl (ix.kp kk)) danil)) (by omega) hcp (by omega)) (dlst danil) (shaped_ints _) shaped_nil) (by rw [eqv_nil]; simp))) (fun e H3 k3 => ?_) (fun e H3 k3 => ?_)
        · exact sret (K := K) (dtup (dacons dstr (dacons (dv rfl (.int _)) (dacons dint (dacons (dix (dv rfl ((ix.kp kk).kp k3)) dint (atMap .int hx0)) danil))))) (fun v H4 k4 => k _ (hy (of_decide_eq_true e)) v H4 ((kk.trans k3).trans k4))
        · exact ⟨_, _, rfl, kk.trans k3, hn2 (of_decide_eq_false e)⟩
      have hn' : n = 0 ∨ n = 1 := by simp at hn; omega
      rcases hn' with rfl | rfl
      · obtain rfl : V.ref qa = x2 := by simpa using e2
        exact step a (.ofTi sa) (by omega) (fun s hs => (B.pa s hs).1) (fun e => .all0 e) (fun e => ⟨fun _ => e, fun h => absurd h (by omega)⟩)
      · obtain rfl : V.ref qb = x2 := by simpa using e2
        exact step b (.ofTi sb) (by omega) (fun s hs => (B.pb s hs).1) (fun e => .all1 (h1 (by omega)) e) (fun e => ⟨fun _ => h1 (by omega), fun _ => e⟩)
    · rintro σ H1 ⟨y0, z0, rfl, k1, h1, h2⟩
      have na := h1 (by show 1 ≤ 2; decide)
      have nb := h2 (by show 2 ≤ 2; decide)
      have iP : Im K H1 (.ref pp) (pairD (a, b)) := .ofPair (k1.sqT sp) (k1.sqT sa) (k1.sqT sb)
      refine qasgL (K := K) (ds := crs a b x) (dcallL (ds := [pairD (a, b), tI x]) (dacons (dv rfl iP) (dacons (dv rfl (ix.kp k1)) danil)) fun vs H2 k2 hv Q2 q => ?_) fun p H2 xs k2 np hp him => ?_
      · obtain ⟨v, w, rfl, i1, i2⟩ := hv.inv2
        exact ⟨v, w, a, b, x, rfl, i1, i2, B, q⟩
      have k12 := k1.trans k2
      refine qif (b := !decide (crs a b x = [])) (dtv (K := K) (DE.is (dNLv rfl (.of hp) him (dlst danil) (shaped_crs a b x) shaped_nil) (by rw [eqv_nil]))) (fun e H3 k3 => ?_) (fun e H3 k3 => ?_)
      · cases hc : crs a b x with
        | nil => rw [hc] at e; cases e
        | cons d r =>
          obtain ⟨i, j, hi, hj, hij, rfl⟩ := crs_head hc
          rw [hc] at him
          cases him with
          | cons hv hr =>
            refine ⟨_, rfl, p, _, 0, _, rfl, rfl, .of (k3.get hp), atI_nat (j := 0) rfl, ?_⟩
            exact k _ (.sides i j hi hj hij) _ _ (k12.trans k3) (hv.kp k3)
      · have hnil : crs a b x = [] := by simpa using e
        obtain ⟨z, ez1, ez2⟩ := two_same na nb (rst_nodup a x) (rst_nodup b x) (crs_nil hnil)
        obtain ⟨ax, rfl, hax⟩ := rst_in (a := a) (x := x) (i := z) (by rw [ez1]; simp)
        have k3' := k12.trans k3
        have iP3 := iP.kp (k2.trans k3)
        have ix3 := ix.kp k3'
        refine qasg (K := K) (d := .int (ax : Int)) (dixL (i := 0) (ds := (rst a x).map .int) (dcRst (f := 0) (dacons (dix (dv rfl iP3) dint at0) (dacons (dv rfl ix3) danil)) (by omega) (fun s hs => (B.pa s hs).1) (by omega)) (fun h => imAtI h (by rw [ez1]; exact atI_nat (j := 0) rfl))) fun v H4 k4 hv => ?_
        obtain rfl := hv.intI
        have hA : a[ax]? = some (a[ax]'(by omega)) := get_lt (by omega)
        have hB : b[ax]? = some (b[ax]'(by omega)) := get_lt (by omega)
        have hS : x[ax]? = some (x[ax]) := get_lt hax
        generalize a[ax]'(by omega) = A1 at hA
        generalize b[ax]'(by omega) = B1 at hB
        generalize x[ax] = S1 at hS
        have hA' := B.pa A1 (List.mem_of_getElem? hA)
        have hB' := B.pb B1 (List.mem_of_getElem? hB)
        refine qcallR (K := K) (ds := [pairD (a, b), tI x, .int (ax : Int)]) (dacons (dv rfl (iP3.kp k4)) (dacons (dv rfl (ix3.kp k4)) (dacons (dv rfl (.int _)) danil))) fun vs H5 k5 him2 => ?_
        obtain ⟨v1, v2, v3, rfl, i1, i2, i3⟩ := him2.inv3
        obtain rfl := i3.intI
        have k5' := k3'.trans (k4.trans k5)
        refine ⟨v1, v2, a, b, x, ax, A1, B1, S1, rfl, i1, i2, B, hA, hB, hS, fun d hd v5 H6 k6 hv5 => ?_⟩
        have k6' := k5'.trans k6
        cases hd with
        | step h =>
          refine qif (b := true) (dtv (K := K) (DE.is (dnotN (dv rfl hv5)) rfl)) (fun _ H7 k7 => ?_) (fun e => nomatch e)
          exact sret (K := K) (dv rfl (hv5.kp k7)) (fun v8 H8 k8 h8 => k _ (.bar ax A1 B1 S1 (.tuple [.str "step", .int (ax : Int)]) ez1 ez2 hA hB hS (by simp) (.step h)) v8 H8 (k6'.trans (k7.trans k8)) h8)
        | gap t hg tm c =>
          refine qif (b := true) (dtv (K := K) (DE.is (dnotN (dv rfl hv5)) rfl)) (fun _ H7 k7 => ?_) (fun e => nomatch e)
          exact sret (K := K) (dv rfl (hv5.kp k7)) (fun v8 H8 k8 h8 => k _ (.bar ax A1 B1 S1 (.tuple [.str "gap", .int (ax : Int), .int t, .int ((A1 * t - S1) / B1)]) ez1 ez2 hA hB hS (by simp) (.gap t hg tm c)) v8 H8 (k6'.trans (k7.trans k8)) h8)
        | none t hg tm c =>
          refine qif (b := false) (dtv (K := K) (DE.is (dnotN (dv rfl hv5)) rfl)) (fun e => nomatch e) (fun _ H7 k7 => ?_)
          have k7' := k6'.trans k7
          have iP7 := iP3.kp (k4.trans (k5.trans (k6.trans k7)))
          have ix7 := ix.kp k7'
          have tl := tms_le tm hB'.1
          have dA : DE K (tOp (rIxT K) (tOp (rIxT K) (tVar 0) (tC (.int 0))) (tVar 5)) [some (.ref pp), some vx, y0, z0, some (.ref p), some (.int (ax : Int)), some v5] H7 (.int A1) := dix (dix (dv rfl iP7) dint at0) (dv rfl (.int _)) (atMap .int hA)
          have dB : DE K (tOp (rIxT K) (tOp (rIxT K) (tVar 0) (tC (.int 1))) (tVar 5)) [some (.ref pp), some vx, y0, z0, some (.ref p), some (.int (ax : Int)), some v5] H7 (.int B1) := dix (dix (dv rfl iP7) dint at1) (dv rfl (.int _)) (atMap .int hB)
          refine sret (K := K) (dtup (dacons dstr (dacons dint (dacons (dv rfl (.int _)) (dacons (dI dA (dcall (d := .int t) (ds := [.int A1, .int B1, .int S1]) (dacons dA (dacons dB (dacons (dix (dv rfl ix7) (dv rfl (.int _)) (atMap .int hS)) danil))) fun vs H8 k8 hv8 Q8 q8 => ?_) (.inl ⟨by omega, by omega⟩)) danil))))) (fun v9 H9 k9 h9 => k _ (.cut ax A1 B1 S1 t ez1 ez2 hA hB hS hg tm c) v9 H9 (k7'.trans k9) h9)
          obtain ⟨w1, w2, w3, rfl, j1, j2, j3⟩ := hv8.inv3
          obtain rfl := j1.intI
          obtain rfl := j2.intI
          obtain rfl := j3.intI
          refine ⟨A1, B1, S1, rfl, hA'.1, hB'.1, (by omega), (by omega), fun h => absurd hg h, fun _ u u0 u1 uk H9 k9 => ?_⟩
          have e : t = u := times_one hA'.1 hB'.1 tm.1 tm.2.1 u0 u1 tm.2.2 uk
          subst e
          exact q8 _ H9 k9 (.int _)


def isCut : PyData → Bool
  | .tuple (.str w :: _) => decide (w = "cut")
  | _ => false
theorem paper_tup {a b x : List Int} {d : PyData} (h : PaperP a b x d) : ∃ w r, d = .tuple (.str w :: r) := by
  cases h with
  | all0 _ => exact ⟨_, _, rfl⟩
  | all1 _ _ => exact ⟨_, _, rfl⟩
  | sides _ _ _ _ _ => exact ⟨_, _, rfl⟩
  | bar ax A B S d _ _ _ _ _ hn hb =>
    cases hb with
    | step _ => exact ⟨_, _, rfl⟩
    | gap _ _ _ _ => exact ⟨_, _, rfl⟩
    | none _ _ _ _ => exact absurd rfl hn
  | cut _ _ _ _ _ _ _ _ _ _ _ _ _ => exact ⟨_, _, rfl⟩

abbrev nl_is_filled : List Str := ["pair", "box"]
theorem sc_is_filled : FnScope nl_is_filled ["pair", "box"] (defScope s_is_filled) := ⟨rfl, rfl, rfl, by decide +kernel, rfl, by decide +kernel, by decide +kernel⟩
def sp_is_filled (K : PySem.W.Frag) : Sp := fun vs H Q _ => ∃ (vp vx : V) (a b x : List Int), vs = [vp, vx] ∧ Im K H vp (pairD (a, b)) ∧ Im K H vx (tI x) ∧ Bx a b x ∧ ∀ d, PaperP a b x d → RetV H Q (.bl (isCut d))
theorem ok_is_filled (T : Txt K mg) : FnOk P w K mg base CX0 5 (He.ga K "is_filled") (fdA K (He.ga K "is_filled")) ["pair", "box"] (sp_is_filled K) := by
  refine T.f_is_filled.ok sc_is_filled (fun vs H Q E h => ?_) (fun cdv A outer s H vs Q E hr h => ?_)
  · obtain ⟨vp, vx, a, b, x, rfl, ip, ix, B, k⟩ := h
    rfl
  · have nd := sc_is_filled.nd
    have hu := hr.units
    obtain ⟨vp, vx, a, b, x, rfl, ip, ix, B, k⟩ := h
    refine ⟨_, PSs.nox (pss_one (ps_ret (pe_cmpR op_eq (pe_ix (ixT (K := K) rfl) (pe_call (ok_paper_papers T) (hr.mono (by decide)) (by rfl) T.g_paper_papers (T.f_paper_papers.kp) (T.b_paper_papers) .nil pass0 (pa_cons (pv 0) (pa_cons (pv 1) pa_nil))) pe_int (fun _ _ => rfl)) (pe_glob (v := .str "cut") rfl T.c_CUT.choose_spec ⟨_, rfl⟩) (nomark _)))), ?_⟩
    refine ⟨_, rfl, _, rfl, vp, vx, a, b, x, rfl, ip, ix, B, fun d hd v H2 k2 h2 => ?_⟩
    obtain ⟨w0, r, rfl⟩ := paper_tup hd
    obtain ⟨p, xs, rfl, hs, hx⟩ := h2.tupI
    cases hx with
    | cons ha hr =>
      obtain rfl := ha.strI
      refine ⟨p, _, 0, _, rfl, rfl, hs, atI_nat (j := 0) rfl, rfl, ?_⟩
      exact (k _ hd).to k2 (by simp [isCut])

end
end TB
/-! plain laws: when a pair fills a box -/
namespace TB
open PySem L2
theorem get_some {x : List Int} {i : Nat} {s z : Int} (h : x[i]? = some s) : x.getD i z = s ∧ i < x.length := ⟨getD_of h, (List.getElem?_eq_some_iff.mp h).1⟩
theorem mem_rst {a x : List Int} {i : Nat} : (i : Int) ∈ rst a x ↔ i < x.length ∧ ¬ a.getD i 1 ∣ x.getD i 0 := by
  unfold rst rstN
  constructor
  · intro h
    obtain ⟨k, hk, e⟩ := List.mem_map.mp h
    have e' : k = i := Int.ofNat.inj e
    subst e'
    obtain ⟨h1, h2⟩ := List.mem_filter.mp hk
    have h2' : x.getD k 0 % a.getD k 1 ≠ 0 := of_decide_eq_true h2
    exact ⟨by simpa using h1, fun d => h2' (Int.emod_eq_zero_of_dvd d)⟩
  · rintro ⟨h1, h2⟩
    refine List.mem_map.mpr ⟨i, List.mem_filter.mpr ⟨by simpa using h1, decide_eq_true fun e => h2 (Int.dvd_of_emod_eq_zero e)⟩, rfl⟩
theorem rst_nil {a x : List Int} : rst a x = [] ↔ ∀ i, i < x.length → a.getD i 1 ∣ x.getD i 0 := by
  constructor
  · intro h i hi
    by_cases d : a.getD i 1 ∣ x.getD i 0
    · exact d
    · have := mem_rst.mpr ⟨hi, d⟩
      rw [h] at this; cases this
  · intro h
    cases e : rst a x with
    | nil => rfl
    | cons z r =>
      obtain ⟨k, rfl, hk⟩ := rst_in (a := a) (x := x) (i := z) (by rw [e]; simp)
      have := mem_rst.mp (show (k : Int) ∈ rst a x by rw [e]; simp)
      exact absurd (h k hk) this.2
def sumL (s a b : Int) : List Nat := (List.range (s / a + 1).toNat).filter fun k => decide ((s - (k : Int) * a) % b = 0)
def sumB (s a b : Int) : Bool := !decide (sumL s a b = [])
theorem sumB_iff {s a b : Int} (ha : 0 < a) (hb : 0 < b) (hs : 0 ≤ s) : sumB s a b = true ↔ ∃ k m : Int, 0 ≤ k ∧ 0 ≤ m ∧ s = k * a + m * b := by
  unfold sumB sumL
  simp only [Bool.not_eq_true', decide_eq_false_iff_not]
  constructor
  · intro h
    obtain ⟨k, hk⟩ := List.exists_mem_of_ne_nil _ h
    obtain ⟨h1, h2⟩ := List.mem_filter.mp hk
    have h1' : k < (s / a + 1).toNat := by simpa using h1
    have h2' : (s - (k : Int) * a) % b = 0 := of_decide_eq_true h2
    obtain ⟨m, hm⟩ := Int.dvd_of_emod_eq_zero h2'
    have hle : (k : Int) * a ≤ s := by
      have h3 : (k : Int) ≤ s / a := by omega
      have h4 := Int.mul_le_mul_of_nonneg_right h3 (Int.le_of_lt ha)
      have h5 := Int.ediv_mul_le s (Int.ne_of_gt ha)
      omega
    refine ⟨k, m, by omega, ?_, by rw [Int.mul_comm m b]; omega⟩
    rcases Int.lt_or_le m 0 with h6 | h6
    · have : b * m < 0 := Int.mul_neg_of_pos_of_neg hb h6
      omega
    · exact h6
  · rintro ⟨k, m, hk, hm, e⟩ h
    have h0 : k.toNat ∈ (List.range (s / a + 1).toNat).filter fun (k : Nat) => decide ((s - (k : Int) * a) % b = 0) := by
      refine List.mem_filter.mpr ⟨?_, decide_eq_true ?_⟩
      · have h1 : 0 ≤ m * b := Int.mul_nonneg hm (Int.le_of_lt hb)
        have h2 : k ≤ s / a := (Int.le_ediv_iff_mul_le ha).mpr (by omega)
        rw [List.mem_range]; omega
      · have : (k.toNat : Int) = k := by omega
        rw [this, e]
        have : k * a + m * b - k * a = m * b := by omega
        rw [this]; exact Int.mul_emod_left m b
    rw [h] at h0; cases h0
/-- whether a pair fills a box -/
def fillB (a b x : List Int) : Bool :=
  if rst a x = [] ∨ rst b x = [] then true else if 1 < (rst a x).length ∨ rst a x ≠ rst b x then false else
    sumB (x.getD ((rst a x).getD 0 0).toNat 0) (a.getD ((rst a x).getD 0 0).toNat 1) (b.getD ((rst a x).getD 0 0).toNat 1)
theorem fillB_one {a b x : List Int} {ax : Nat} (h1 : rst a x = [(ax : Int)]) (h2 : rst b x = [(ax : Int)]) : fillB a b x = sumB (x.getD ax 0) (a.getD ax 1) (b.getD ax 1) := by
  unfold fillB
  rw [h1, h2, if_neg (by simp), if_neg (by simp)]
  simp
theorem bx_at {a b x : List Int} (B : Bx a b x) {i : Nat} (hi : i < x.length) : 0 < a.getD i 1 ∧ 0 < b.getD i 1 ∧ 0 < x.getD i 0 := by
  have h1 : a[i]? = some (a[i]'(by have := B.la; omega)) := get_lt (by have := B.la; omega)
  have h2 : b[i]? = some (b[i]'(by have := B.lb; omega)) := get_lt (by have := B.lb; omega)
  have h3 : x[i]? = some (x[i]) := get_lt hi
  rw [getD_of h1, getD_of h2, getD_of h3]
  exact ⟨(B.pa _ (List.getElem_mem _)).1, (B.pb _ (List.getElem_mem _)).1, (B.px _ (List.getElem_mem _)).1⟩
theorem paper_fill {a b x : List Int} {d : PyData} (B : Bx a b x) (h : PaperP a b x d) : isCut d = fillB a b x := by
  cases h with
  | all0 h => unfold fillB; rw [if_pos (.inl h)]; simp [isCut]
  | all1 h1 h => unfold fillB; rw [if_pos (.inr h)]; simp [isCut]
  | sides i j hi hj hij =>
    have n1 : rst a x ≠ [] := fun e => by rw [e] at hi; cases hi
    have n2 : rst b x ≠ [] := fun e => by rw [e] at hj; cases hj
    unfold fillB
    rw [if_neg (by simp [n1, n2]), if_pos]
    · simp [isCut]; decide +kernel
    · by_cases c : 1 < (rst a x).length
      · exact .inl c
      · refine .inr fun e => ?_
        have : ∃ z, rst a x = [z] := by
          cases e1 : rst a x with
          | nil => exact absurd e1 n1
          | cons z r =>
            cases r with
            | nil => exact ⟨z, rfl⟩
            | cons y r => rw [e1] at c; simp at c
        obtain ⟨z, ez⟩ := this
        rw [← e, ez] at hj
        rw [ez] at hi
        simp at hi hj
        exact hij (hi.trans hj.symm)
  | bar ax A B' S d h1 h2 hA hB hS hn hb =>
    rw [fillB_one h1 h2, (get_some hA).1, (get_some hB).1, (get_some hS).1]
    have pA := B.pa A (List.mem_of_getElem? hA)
    have pB := B.pb B' (List.mem_of_getElem? hB)
    have pS := B.px S (List.mem_of_getElem? hS)
    have no : ¬ sumB S A B' = true → false = sumB S A B' := fun h => by simpa using h
    cases hb with
    | step hg =>
      have : isCut (.tuple [.str "step", .int (ax : Int)]) = false := by simp [isCut]; decide +kernel
      rw [this]
      refine no fun h => ?_
      obtain ⟨k, m, _, _, e⟩ := (sumB_iff pA.1 pB.1 (by omega)).mp h
      have d1 := Int.gcd_dvd_left A B'
      have d2 := Int.gcd_dvd_right A B'
      exact hg (Int.emod_eq_zero_of_dvd (e ▸ Int.dvd_add (Int.dvd_mul_of_dvd_right d1) (Int.dvd_mul_of_dvd_right d2)))
    | gap t hg tm c =>
      have : isCut (.tuple [.str "gap", .int (ax : Int), .int t, .int ((A * t - S) / B')]) = false := by simp [isCut]; decide +kernel
      rw [this]
      refine no fun h => ?_
      obtain ⟨k, m, hk, hm, e⟩ := (sumB_iff pA.1 pB.1 (by omega)).mp h
      have h3 := times_le (k := k) pA.1 pB.1 tm.1 tm.2.1 tm.2.2 hk ⟨-m, by rw [Int.mul_neg, Int.mul_comm A k, Int.mul_comm B' m]; omega⟩
      have h4 := Int.mul_le_mul_of_nonneg_left h3 (Int.le_of_lt pA.1)
      have h5 := Int.mul_nonneg hm (Int.le_of_lt pB.1)
      rw [Int.mul_comm A k] at h4
      omega
    | none _ _ _ _ => exact absurd rfl hn
  | cut ax A B' S t h1 h2 hA hB hS hg tm c =>
    rw [fillB_one h1 h2, (get_some hA).1, (get_some hB).1, (get_some hS).1]
    have pA := B.pa A (List.mem_of_getElem? hA)
    have pB := B.pb B' (List.mem_of_getElem? hB)
    have pS := B.px S (List.mem_of_getElem? hS)
    have : isCut (.tuple [.str "cut", .int 0, .int (ax : Int), .int (A * t)]) = true := by simp [isCut]
    rw [this]
    obtain ⟨t0, t1, k, hk⟩ := tm
    refine ((sumB_iff pA.1 pB.1 (by omega)).mpr ⟨t, -k, t0, ?_, by rw [Int.mul_comm t A, Int.neg_mul, Int.mul_comm k B']; omega⟩).symm
    rcases Int.lt_or_le 0 k with h | h
    · have := Int.mul_pos pB.1 h; omega
    · omega
end TB
namespace TB
open PySem L2
def Filled (a b x : List Int) : Prop := (∀ i, i < x.length → a.getD i 1 ∣ x.getD i 0) ∨ (∀ i, i < x.length → b.getD i 1 ∣ x.getD i 0) ∨
  ∃ ax, ax < x.length ∧ (∀ i, i < x.length → i ≠ ax → a.getD i 1 ∣ x.getD i 0 ∧ b.getD i 1 ∣ x.getD i 0) ∧ ∃ k m : Int, 0 ≤ k ∧ 0 ≤ m ∧ x.getD ax 0 = k * a.getD ax 1 + m * b.getD ax 1
theorem one_of {l : List Int} (h : l ≠ []) (h1 : ¬ 1 < l.length) : ∃ z, l = [z] := by
  cases l with
  | nil => exact absurd rfl h
  | cons z r =>
    cases r with
    | nil => exact ⟨z, rfl⟩
    | cons y r => simp at h1
theorem fill_iff {a b x : List Int} (B : Bx a b x) : fillB a b x = true ↔ Filled a b x := by
  constructor
  · intro h
    by_cases n1 : rst a x = []
    · exact .inl (rst_nil.mp n1)
    · by_cases n2 : rst b x = []
      · exact .inr (.inl (rst_nil.mp n2))
      · unfold fillB at h
        rw [if_neg (by simp [n1, n2])] at h
        by_cases c : 1 < (rst a x).length ∨ rst a x ≠ rst b x
        · rw [if_pos c] at h; cases h
        · rw [if_neg c] at h
          have c1 : ¬ 1 < (rst a x).length := fun q => c (.inl q)
          have c2 : rst a x = rst b x := Classical.byContradiction fun q => c (.inr q)
          obtain ⟨z, ez⟩ := one_of n1 c1
          obtain ⟨ax, rfl, hax⟩ := rst_in (a := a) (x := x) (i := z) (by rw [ez]; simp)
          rw [ez] at h
          have e0 : (([(ax : Int)] : List Int).getD 0 0).toNat = ax := by simp
          rw [e0] at h
          have p := bx_at B hax
          refine .inr (.inr ⟨ax, hax, fun i hi ne => ?_, (sumB_iff p.1 p.2.1 (by omega)).mp h⟩)
          have q1 : ¬ (i : Int) ∈ rst a x := by rw [ez]; simp; omega
          have q2 : ¬ (i : Int) ∈ rst b x := by rw [← c2, ez]; simp; omega
          rw [mem_rst] at q1 q2
          exact ⟨Classical.byContradiction fun q => q1 ⟨hi, q⟩, Classical.byContradiction fun q => q2 ⟨hi, q⟩⟩
  · intro h
    by_cases n1 : rst a x = []
    · unfold fillB; rw [if_pos (.inl n1)]
    · by_cases n2 : rst b x = []
      · unfold fillB; rw [if_pos (.inr n2)]
      · rcases h with h | h | ⟨ax, hax, h, k⟩
        · exact absurd (rst_nil.mpr h) n1
        · exact absurd (rst_nil.mpr h) n2
        · have all : ∀ c : List Int, (∀ i, i < x.length → i ≠ ax → c.getD i 1 ∣ x.getD i 0) → rst c x ≠ [] → rst c x = [(ax : Int)] := by
            intro c hc hn
            have hall : ∀ z ∈ rst c x, z = (ax : Int) := by
              intro z hz
              obtain ⟨i, rfl, hi⟩ := rst_in hz
              by_cases e : i = ax
              · rw [e]
              · exact absurd (hc i hi e) (mem_rst.mp hz).2
            have nd := rst_nodup c x
            cases e : rst c x with
            | nil => exact absurd e hn
            | cons z r =>
              rw [e] at hall nd
              have ez := hall z (by simp)
              cases r with
              | nil => rw [ez]
              | cons y r =>
                have ey := hall y (by simp)
                rw [ez, ey] at nd; simp at nd
          have p := bx_at B hax
          rw [fillB_one (all a (fun i hi ne => (h i hi ne).1) n1) (all b (fun i hi ne => (h i hi ne).2) n2)]
          exact (sumB_iff p.1 p.2.1 (by omega)).mpr k
theorem Bx.swap {a b x : List Int} (B : Bx a b x) : Bx b a x := ⟨B.lb, B.la, B.l1, B.l4, B.pb, B.pa, B.px⟩
theorem Filled.swap {a b x : List Int} (h : Filled a b x) : Filled b a x := by
  rcases h with h | h | ⟨ax, hax, h, k, m, hk, hm, e⟩
  · exact .inr (.inl h)
  · exact .inl h
  · exact .inr (.inr ⟨ax, hax, fun i hi ne => ⟨(h i hi ne).2, (h i hi ne).1⟩, m, k, hm, hk, by omega⟩)
theorem fill_swap {a b x : List Int} (B : Bx a b x) : fillB b a x = fillB a b x := by
  rw [Bool.eq_iff_iff, fill_iff B, fill_iff B.swap]
  exact ⟨Filled.swap, Filled.swap⟩
/-- the sides in another order -/
def pm (o l : List Int) : List Int := o.map fun i => l.getD i.toNat 0
abbrev Ord (o : List Int) (n : Nat) : Prop := o.Perm ((List.range n).map fun i => ((i : Nat) : Int))
theorem Ord.len {o : List Int} {n : Nat} (h : Ord o n) : o.length = n := by rw [h.length_eq]; simp
theorem Ord.mem {o : List Int} {n : Nat} (h : Ord o n) {i : Int} : i ∈ o ↔ ∃ k : Nat, k < n ∧ i = (k : Int) := by
  rw [h.mem_iff]
  constructor
  · intro h
    obtain ⟨k, hk, e⟩ := List.mem_map.mp h
    exact ⟨k, by simpa using hk, e.symm⟩
  · rintro ⟨k, hk, e⟩
    exact List.mem_map.mpr ⟨k, by simpa using hk, e.symm⟩
theorem pm_at {o l : List Int} {n k : Nat} {z : Int} (h : Ord o n) (hl : l.length = n) (hk : k < n) : ∃ j, j < n ∧ o[k]? = some (j : Int) ∧ (pm o l).getD k z = l.getD j z := by
  have h1 : o[k]? = some (o[k]'(by rw [h.len]; exact hk)) := get_lt (by rw [h.len]; exact hk)
  obtain ⟨j, hj, e⟩ := h.mem.mp (List.mem_of_getElem? h1)
  rw [e] at h1
  refine ⟨j, hj, h1, ?_⟩
  have h2 : (pm o l)[k]? = some (l.getD j 0) := by unfold pm; rw [List.getElem?_map, h1]; simp
  rw [getD_of h2]
  have h3 : l[j]? = some (l[j]'(by omega)) := get_lt (by omega)
  rw [getD_of h3, getD_of h3]
theorem Ord.onto {o : List Int} {n j : Nat} (h : Ord o n) (hj : j < n) : ∃ k, k < n ∧ o[k]? = some (j : Int) := by
  have : (j : Int) ∈ o := h.mem.mpr ⟨j, hj, rfl⟩
  obtain ⟨k, hk⟩ := List.getElem?_of_mem this
  exact ⟨k, by have := (List.getElem?_eq_some_iff.mp hk).1; rw [h.len] at this; exact this, hk⟩
theorem Ord.inj {o : List Int} {n k l : Nat} (h : Ord o n) (hk : k < n) (hl : l < n) (e : o[k]? = o[l]?) : k = l := by
  have nd : o.Nodup := h.nodup_iff.mpr (List.Pairwise.map _ (fun i j h e => h (Int.ofNat.inj e)) List.nodup_range)
  exact (List.getElem?_inj (by rw [h.len]; exact hk) nd).mp e
theorem pm_len {o l : List Int} : (pm o l).length = o.length := by unfold pm; simp
theorem Bx.pm {a b x o : List Int} (B : Bx a b x) (h : Ord o x.length) : Bx (pm o a) (pm o b) (pm o x) := by
  have all : ∀ l : List Int, l.length = x.length → (∀ s ∈ l, 0 < s ∧ s ≤ 1000) → ∀ s ∈ TB.pm o l, 0 < s ∧ s ≤ 1000 := by
    intro l hl hp s hs
    unfold TB.pm at hs
    obtain ⟨i, hi, rfl⟩ := List.mem_map.mp hs
    obtain ⟨k, hk, rfl⟩ := h.mem.mp hi
    have h3 : l[k]? = some (l[k]'(by omega)) := get_lt (by omega)
    simp only [Int.toNat_natCast]
    rw [getD_of h3]
    exact hp _ (List.getElem_mem _)
  exact ⟨by rw [pm_len, pm_len], by rw [pm_len, pm_len], by rw [pm_len, h.len]; exact B.l1, by rw [pm_len, h.len]; exact B.l4, all a B.la B.pa, all b B.lb B.pb, all x rfl B.px⟩
theorem fill_pm {a b x o : List Int} (B : Bx a b x) (h : Ord o x.length) : fillB (pm o a) (pm o b) (pm o x) = fillB a b x := by
  rw [Bool.eq_iff_iff, fill_iff B, fill_iff (B.pm h)]
  have hn : (pm o x).length = x.length := by rw [pm_len, h.len]
  have dv : ∀ c : List Int, c.length = x.length → ((∀ i, i < x.length → (pm o c).getD i 1 ∣ (pm o x).getD i 0) ↔ ∀ i, i < x.length → c.getD i 1 ∣ x.getD i 0) := by
    intro c hc
    constructor
    · intro q j hj
      obtain ⟨k, hk, e⟩ := h.onto hj
      have := q k hk
      obtain ⟨j1, hj1, e1, e2⟩ := pm_at (z := 1) h hc hk
      obtain ⟨j2, hj2, e3, e4⟩ := pm_at (z := 0) h (l := x) rfl hk
      rw [e] at e1 e3
      have : j = j1 := Int.ofNat.inj (Option.some.inj e1)
      have : j = j2 := Int.ofNat.inj (Option.some.inj e3)
      subst_vars
      rw [← e2, ← e4]; assumption
    · intro q k hk
      obtain ⟨j1, hj1, e1, e2⟩ := pm_at (z := 1) h hc hk
      obtain ⟨j2, hj2, e3, e4⟩ := pm_at (z := 0) h (l := x) rfl hk
      rw [e1] at e3
      have : j1 = j2 := Int.ofNat.inj (Option.some.inj e3)
      subst this
      rw [e2, e4]; exact q j1 hj1
  unfold Filled
  rw [hn, dv a B.la, dv b B.lb]
  have at1 : ∀ k, k < x.length → ∃ j, j < x.length ∧ o[k]? = some (j : Int) ∧ (pm o a).getD k 1 = a.getD j 1 ∧ (pm o b).getD k 1 = b.getD j 1 ∧ (pm o x).getD k 0 = x.getD j 0 := by
    intro k hk
    obtain ⟨j1, hj1, e1, e2⟩ := pm_at (z := 1) h B.la hk
    obtain ⟨j2, hj2, e3, e4⟩ := pm_at (z := 1) h B.lb hk
    obtain ⟨j3, hj3, e5, e6⟩ := pm_at (z := 0) h (l := x) rfl hk
    rw [e1] at e3 e5
    have : j1 = j2 := Int.ofNat.inj (Option.some.inj e3)
    subst this
    have : j1 = j3 := Int.ofNat.inj (Option.some.inj e5)
    subst this
    exact ⟨j1, hj1, e1, e2, e4, e6⟩
  refine or_congr Iff.rfl (or_congr Iff.rfl ⟨?_, ?_⟩)
  · rintro ⟨ax, hax, h1, k, m, hk, hm, e⟩
    obtain ⟨j, hj, ej, ea, eb, ex⟩ := at1 ax hax
    refine ⟨j, hj, fun i hi ne => ?_, k, m, hk, hm, by rw [← ea, ← eb, ← ex]; exact e⟩
    obtain ⟨l, hl, el⟩ := h.onto hi
    have hne : l ≠ ax := fun q => by rw [q, ej] at el; exact ne (Int.ofNat.inj (Option.some.inj el)).symm
    obtain ⟨j', hj', ej', ea', eb', ex'⟩ := at1 l hl
    rw [el] at ej'
    have : i = j' := Int.ofNat.inj (Option.some.inj ej')
    subst this
    rw [← ea', ← eb', ← ex']; exact h1 l hl hne
  · rintro ⟨j, hj, h1, k, m, hk, hm, e⟩
    obtain ⟨ax, hax, ej⟩ := h.onto hj
    obtain ⟨j', hj', ej', ea, eb, ex⟩ := at1 ax hax
    rw [ej] at ej'
    have : j = j' := Int.ofNat.inj (Option.some.inj ej')
    subst this
    refine ⟨ax, hax, fun l hl ne => ?_, k, m, hk, hm, by rw [ea, eb, ex]; exact e⟩
    obtain ⟨i, hi, ei, ea', eb', ex'⟩ := at1 l hl
    rw [ea', eb', ex']
    exact h1 i hi fun q => ne (h.inj hl hax (by rw [ei, ej, q]))
end TB
namespace TB
open PySem PySem.Spec PyProof.Rows L2
section
variable {P : Program} {w : World} {K : PySem.W.Frag} {mg : Str → Option Value} {base : Heap}
abbrev nl_law_divisor : List Str := ["_law_one_here", "_law_other"]
theorem sc_law_divisor : FnScope nl_law_divisor ["_law_one_here", "_law_other"] (defScope s_law_divisor) := ⟨rfl, rfl, rfl, by decide +kernel, rfl, by decide +kernel, by decide +kernel⟩
def sp_law_divisor : Sp := fun vs H Q _ => ∃ a b : Int, vs = [.int a, .int b] ∧ 0 ≤ a ∧ 0 ≤ b ∧ RetV H Q (.int (Int.gcd a b))
theorem ok_law_divisor (T : Txt K mg) : FnOk P w K mg base CX0 1 (He.ga K "_law_divisor") (fdA K (He.ga K "_law_divisor")) ["_law_one_here", "_law_other"] sp_law_divisor := by
  refine T.f_law_divisor.ok sc_law_divisor (fun vs H Q E h => ?_) (fun cdv A outer s H vs Q E hr h => ?_)
  · obtain ⟨a0, b0, rfl, ha, hb, k⟩ := h
    rfl
  · have nd := sc_law_divisor.nd
    have hu := hr.units
    obtain ⟨a0, b0, rfl, ha, hb, k⟩ := h
    refine ⟨_, PSs.nox (pss_cons (ps_while PassesOwn.never (pt_cmpR op_gt (pv 1) pe_int (nomark _)) (pss_one (ps_par (i := 0) (j := 1) rfl nd rfl rfl (by decide) rfl rfl (pa_cons (pv 1) (pa_cons (pe_op op_mod (pv 0) (pv 1)) pa_nil)) (by rfl))))
      (pss_one (ps_ret (pv 0)))), ?_⟩
    refine ⟨fun m σ H' => ∃ a b : Int, σ = [some (.int a), some (.int b)] ∧ 0 ≤ a ∧ 0 ≤ b ∧ Int.gcd a b = Int.gcd a0 b0 ∧ m = b.toNat ∧ H' = H, ⟨_, a0, b0, rfl, ha, hb, rfl, rfl, rfl⟩, ?_⟩
    rintro m σ H' ⟨a, b, rfl, ha, hb, hg, rfl, rfl⟩
    refine ⟨_, rfl, _, _, rfl, rfl, _, rfl, ?_⟩
    by_cases c : 0 < b
    · refine dT c ?_
      refine ⟨fun σ' H2 => σ' = [some (.int b), some (.int (a % b))] ∧ H2 = H', ?_, ?_⟩
      · rintro σ2 H2 ⟨rfl, rfl⟩
        have h1 := Int.emod_lt_of_pos a c
        have h2 := Int.emod_nonneg a (Int.ne_of_gt c)
        exact ⟨_, by omega, b, a % b, rfl, hb, h2, by rw [gcd_step ha c, hg], rfl, rfl⟩
      · exact ⟨_, rfl, _, rfl, _, rfl, _, _, rfl, rfl, c, _, _, rfl, rfl, rfl⟩
    · refine dF c ?_
      have e : b = 0 := by omega
      subst e
      refine ⟨_, rfl, ?_⟩
      refine k.to .refl ?_
      rw [← hg, Int.gcd_zero_right]
      have : ((a.natAbs : Nat) : Int) = a := by omega
      rw [this]

abbrev nl_law_whole : List Str := ["_law_value", "_law_least", "_law_most"]
theorem sc_law_whole : FnScope nl_law_whole ["_law_value", "_law_least", "_law_most"] (defScope s_law_whole) := ⟨rfl, rfl, rfl, by decide +kernel, rfl, by decide +kernel, by decide +kernel⟩
def sp_law_whole : Sp := fun vs H Q _ => ∃ v lo hi : Int, vs = [.int v, .int lo, .int hi] ∧ RetV H Q (.bl (decide (lo ≤ v ∧ v ≤ hi)))
theorem ok_law_whole (T : Txt K mg) : FnOk P w K mg base CX0 1 (He.ga K "_law_whole") (fdA K (He.ga K "_law_whole")) ["_law_value", "_law_least", "_law_most"] sp_law_whole := by
  refine T.f_law_whole.ok sc_law_whole (fun vs H Q E h => ?_) (fun cdv A outer s H vs Q E hr h => ?_)
  · obtain ⟨v, lo, hi, rfl, k⟩ := h
    rfl
  · have nd := sc_law_whole.nd
    have hu := hr.units
    obtain ⟨v, lo, hi, rfl, k⟩ := h
    refine ⟨_, PSs.nox (pss_one (ps_ret (pe_and (pe_callB (clIsi (K := K) rfl) (by rfl) T.n_isinstance (by decide +kernel) (pa_cons (pv 0) (pa_cons (pe_bltn (v := .ty "int") (by rfl) T.n_int (by decide +kernel) rfl) pa_nil))) (pe_and (pe_not (pe_callB (clIsi (K := K) rfl) (by rfl) T.n_isinstance (by decide +kernel) (pa_cons (pv 0) (pa_cons (pe_bltn (v := .ty "bool") (by rfl) T.n_bool (by decide +kernel) rfl) pa_nil)))) (pe_one (pe_chain op_le op_le (pv 1) (pv 0) (pv 2))))))), ?_⟩
    refine sretV (K := K) (d := .bool (decide (lo ≤ v ∧ v ≤ hi))) (DE.is (dand (disi (T := "int") (b := true) (dv rfl (.int v)) (by show kitB "int" "int" = some true; decide +kernel)) (fun _ => dand (dnot (disi (T := "bool") (b := false) (dv rfl (.int v)) (by show kitB "int" "bool" = some false; decide +kernel))) (fun _ => dch (dv rfl (.int lo)) (dv rfl (.int v)) (dv rfl (.int hi))))) (by simp)) rfl k

abbrev nl_law_rests : List Str := ["_law_brick", "_law_box", "_law_axis"]
theorem sc_law_rests : FnScope nl_law_rests ["_law_brick", "_law_box"] (defScope s_law_rests) := ⟨rfl, rfl, rfl, by decide +kernel, rfl, by decide +kernel, by decide +kernel⟩
def sp_law_rests (K : PySem.W.Frag) : Sp := fun vs H Q _ => ∃ (va vx : V) (a x : List Int), vs = [va, vx] ∧ Im K H va (tI a) ∧ Im K H vx (tI x) ∧ x.length ≤ a.length ∧ (∀ s ∈ a, 0 < s) ∧ x.length ≤ 1000 ∧ RetL K H Q ((rst a x).map .int)
theorem ok_law_rests (T : Txt K mg) : FnOk P w K mg base CX0 1 (He.ga K "_law_rests") (fdA K (He.ga K "_law_rests")) ["_law_brick", "_law_box"] (sp_law_rests K) := by
  refine T.f_law_rests.ok sc_law_rests (fun vs H Q E h => ?_) (fun cdv A outer s H vs Q E hr h => ?_)
  · obtain ⟨va, vx, a, x, rfl, ia, ix, hl, hp, h9, k⟩ := h
    rfl
  · have nd := sc_law_rests.nd
    have hu := hr.units
    obtain ⟨va, vx, a, x, rfl, ia, ix, hl, hp, h9, k⟩ := h
    refine ⟨_, PSs.nox (pss_one (ps_ret (pe_lc (own := [("_law_axis", 2)]) rfl nd (pi_range1 (by rfl) T.n_range (pa_cons (pe_callB (clLen (K := K) rfl) (by rfl) T.n_len (by decide +kernel) (pa_cons (pv 1) pa_nil)) pa_nil)) (blkOk_by (N := nl_law_rests) (sc := defScope s_law_rests) (by decide +kernel)) (fun _ _ _ _ _ => (pg_name (i := 2) nd rfl (Or.inl rfl))) (fun _ _ _ _ _ => (pts_one (pt_cmpR op_ne (pe_op op_mod (pe_callTy call_int1 (by rfl) T.n_int (by decide +kernel) (pa_cons (pe_ix (ixT (K := K) rfl) (pv 1) (pv 2) (fun _ _ => rfl)) pa_nil)) (pe_ix (ixT (K := K) rfl) (pv 0) (pv 2) (fun _ _ => rfl))) pe_int (nomark _)))) (fun _ _ _ _ _ => (pv 2))))), ?_⟩
    refine sretL (K := K) (DL.is (dlcR (n := x.length) (fun i => decide (x.getD i 0 % a.getD i 1 ≠ 0)) (fun i => .int ((i : Nat) : Int)) (dacons (DE.is (dlen (ds := x.map .int) (dv rfl ix)) (by simp)) danil) (by omega) (fun _ => rfl) (fun i H1 k1 hi => ?_) (fun i H1 k1 hi hf => ?_)) (rst_gv a x)) k
    · have h2 : a[i]? = some (a[i]'(by omega)) := get_lt (by omega)
      have h3 : x[i]? = some (x[i]) := get_lt hi
      refine dtv (K := K) (DE.is (dne (dI (dcint (dix (dv rfl (ix.kp k1)) (dv rfl (.int _)) (atMap .int h3))) (dix (dv rfl (ia.kp k1)) (dv rfl (.int _)) (atMap .int h2)) (hp _ (List.getElem_mem _))) dint rfl rfl rfl) ?_)
      rw [getD_of h3, getD_of h2]; simp
    · exact dv rfl (.int _)


theorem lawRst {E : XK} {σ : L2.St} {H : Hp} {ta : TA} {a x : List Int} (h : DA K ta σ H [tI a, tI x]) (hl : x.length ≤ a.length) (hp : ∀ s ∈ a, 0 < s) (h9 : x.length ≤ 1000) : DL K (tCall (sp_law_rests K) [] E ta) σ H ((rst a x).map .int) :=
  dcallL h fun vs H1 k1 hv Q q => by
    obtain ⟨v, w, rfl, i1, i2⟩ := hv.inv2
    exact ⟨v, w, a, x, rfl, i1, i2, hl, hp, h9, q⟩
theorem shaped_natL (l : List Nat) : SeqAt.shaped (.list (l.map fun i => PyData.int ((i : Nat) : Int))) = true := by
  have : (l.map fun i => PyData.int ((i : Nat) : Int)) = (l.map fun i => ((i : Nat) : Int)).map PyData.int := by rw [List.map_map]; rfl
  rw [this]; exact shaped_ints _

abbrev nl_law_is_sum : List Str := ["_law_side", "_law_one_here", "_law_other", "_law_k"]
theorem sc_law_is_sum : FnScope nl_law_is_sum ["_law_side", "_law_one_here", "_law_other"] (defScope s_law_is_sum) := ⟨rfl, rfl, rfl, by decide +kernel, rfl, by decide +kernel, by decide +kernel⟩
def sp_law_is_sum : Sp := fun vs H Q _ => ∃ s a b : Int, vs = [.int s, .int a, .int b] ∧ 0 < a ∧ 0 < b ∧ a ≤ 1000 ∧ 0 < s ∧ s ≤ 1000 ∧ RetV H Q (.bl (sumB s a b))
theorem ok_law_is_sum (T : Txt K mg) : FnOk P w K mg base CX0 1 (He.ga K "_law_is_sum") (fdA K (He.ga K "_law_is_sum")) ["_law_side", "_law_one_here", "_law_other"] sp_law_is_sum := by
  refine T.f_law_is_sum.ok sc_law_is_sum (fun vs H Q E h => ?_) (fun cdv A outer s H vs Q E hr h => ?_)
  · obtain ⟨s0, a, b, rfl, ha, hb, la, hs, ls, k⟩ := h
    rfl
  · have nd := sc_law_is_sum.nd
    have hu := hr.units
    obtain ⟨s0, a, b, rfl, ha, hb, la, hs, ls, k⟩ := h
    refine ⟨_, PSs.nox (pss_one (ps_ret (pe_cmpR (opNeD (K := K) rfl hu) (pe_lc (own := [("_law_k", 3)]) rfl nd (pi_range1 (by rfl) T.n_range (pa_cons (pe_op op_add (pe_op op_fdivW (pv 0) (pv 1)) pe_int) pa_nil)) (blkOk_by (N := nl_law_is_sum) (sc := defScope s_law_is_sum) (by decide +kernel)) (fun _ _ _ _ _ => (pg_name (i := 3) nd rfl (Or.inl rfl))) (fun _ _ _ _ _ => (pts_one (pt_cmpR op_eq (pe_op op_mod (pe_callTy call_int1 (by rfl) T.n_int (by decide +kernel) (pa_cons (pe_op op_sub (pv 0) (pe_op op_mul (pv 3) (pv 1))) pa_nil)) (pv 2)) pe_int (nomark _)))) (fun _ _ _ _ _ => (pv 3))) (pe_lst pa_nil) (nomark _)))), ?_⟩
    have q1 : s0 / a ≤ s0 := Int.ediv_le_self _ (by omega)
    have q2 : 0 ≤ s0 / a := Int.ediv_nonneg (by omega) (by omega)
    have hn : s0 / a + 1 = (((s0 / a + 1).toNat : Nat) : Int) := by omega
    refine sretV (K := K) (d := .bool (sumB s0 a b)) (DE.is (dNL (dlcR (K := K) (n := (s0 / a + 1).toNat) (fun i => decide ((s0 - (i : Int) * a) % b = 0)) (fun i => .int ((i : Nat) : Int)) (dacons (DE.is (dI0 (dI (dv rfl (.int s0)) (dv rfl (.int a)) (wide_div ha (b := 40) (by omega) (by decide) (by decide))) dint) (congrArg PyData.int hn)) danil) (by omega) (fun _ => rfl) (fun i H1 k1 hi => ?_) (fun i H1 k1 hi hf => ?_)) (dlst danil) (shaped_natL _) shaped_nil) ?_) rfl k
    · refine dtv (K := K) (DE.is (deq (dI (dcint (dI0 (dv rfl (.int s0)) (dI (dv rfl (.int (i : Int))) (dv rfl (.int a)) (.inl ⟨by omega, by omega⟩)))) (dv rfl (.int b)) hb) dint rfl rfl rfl) (by simp))
    · exact dv rfl (.int _)
    · rw [eqv_nil]; unfold sumB sumL gv; simp

abbrev nl_law_is_filled : List Str := ["_law_pair_here", "_law_box", "_law_one_here", "_law_other"]
theorem sc_law_is_filled : FnScope nl_law_is_filled ["_law_pair_here", "_law_box"] (defScope s_law_is_filled) := ⟨rfl, rfl, rfl, by decide +kernel, rfl, by decide +kernel, by decide +kernel⟩
def sp_law_is_filled (K : PySem.W.Frag) : Sp := fun vs H Q _ => ∃ (vp vx : V) (a b x : List Int), vs = [vp, vx] ∧ Im K H vp (pairD (a, b)) ∧ Im K H vx (tI x) ∧ Bx a b x ∧ RetV H Q (.bl (fillB a b x))
theorem ok_law_is_filled (T : Txt K mg) : FnOk P w K mg base CX0 2 (He.ga K "_law_is_filled") (fdA K (He.ga K "_law_is_filled")) ["_law_pair_here", "_law_box"] (sp_law_is_filled K) := by
  refine T.f_law_is_filled.ok sc_law_is_filled (fun vs H Q E h => ?_) (fun cdv A outer s H vs Q E hr h => ?_)
  · obtain ⟨vp, vx, a, b, x, rfl, ip, ix, B, k⟩ := h
    rfl
  · have nd := sc_law_is_filled.nd
    have hu := hr.units
    obtain ⟨vp, vx, a, b, x, rfl, ip, ix, B, k⟩ := h
    refine ⟨_, PSs.nox (pss_cons (ps_par (i := 2) (j := 3) rfl nd rfl rfl (by decide) rfl rfl (pa_cons (pe_call (ok_law_rests T) (hr.mono (by decide)) (by rfl) T.g_law_rests (T.f_law_rests.kp) (T.b_law_rests) .nil pass0 (pa_cons (pe_ix (ixT (K := K) rfl) (pv 0) pe_int (fun _ _ => rfl)) (pa_cons (pv 1) pa_nil))) (pa_cons (pe_call (ok_law_rests T) (hr.mono (by decide)) (by rfl) T.g_law_rests (T.f_law_rests.kp) (T.b_law_rests) .nil pass0 (pa_cons (pe_ix (ixT (K := K) rfl) (pv 0) pe_int (fun _ _ => rfl)) (pa_cons (pv 1) pa_nil))) pa_nil)) (by rfl))
      (pss_cons (ps_if (PW.pt (pw_or (pt_cmpR (opEqD (K := K) rfl hu) (pv 2) (pe_lst pa_nil) (nomark _)) (pw_or1 (pt_cmpR (opEqD (K := K) rfl hu) (pv 3) (pe_lst pa_nil) (nomark _))))) (pss_one (ps_ret pe_bl)) pss_nil)
      (pss_cons (ps_if (PW.pt (pw_or (pt_cmpR op_gt (pe_callB (clLen (K := K) rfl) (by rfl) T.n_len (by decide +kernel) (pa_cons (pv 2) pa_nil)) pe_int (nomark _)) (pw_or1 (pt_cmpR (opNeD (K := K) rfl hu) (pv 2) (pv 3) (nomark _))))) (pss_one (ps_ret pe_bl)) pss_nil)
      (pss_one (ps_ret (pe_call (ok_law_is_sum T) (hr.mono (by decide)) (by rfl) T.g_law_is_sum (T.f_law_is_sum.kp) (T.b_law_is_sum) .nil pass0 (pa_cons (pe_ix (ixT (K := K) rfl) (pv 1) (pe_ix (ixL (K := K) rfl) (pv 2) pe_int (fun _ _ => rfl)) (fun _ _ => rfl)) (pa_cons (pe_ix (ixT (K := K) rfl) (pe_ix (ixT (K := K) rfl) (pv 0) pe_int (fun _ _ => rfl)) (pe_ix (ixL (K := K) rfl) (pv 2) pe_int (fun _ _ => rfl)) (fun _ _ => rfl)) (pa_cons (pe_ix (ixT (K := K) rfl) (pe_ix (ixT (K := K) rfl) (pv 0) pe_int (fun _ _ => rfl)) (pe_ix (ixL (K := K) rfl) (pv 2) pe_int (fun _ _ => rfl)) (fun _ _ => rfl)) pa_nil))))))))), ?_⟩
    have hla := B.la
    have hlb := B.lb
    have hl1 := B.l1
    have hl4 := B.l4
    refine q2pL (K := K) (lawRst (a := a) (x := x) (dacons (dix (dv rfl ip) dint at0) (dacons (dv rfl ix) danil)) (by omega) (fun s hs => (B.pa s hs).1) (by omega)) (lawRst (a := b) (x := x) (dacons (dix (dv rfl ip) dint at1) (dacons (dv rfl ix) danil)) (by omega) (fun s hs => (B.pb s hs).1) (by omega)) fun p q xs ys H1 k1 np nq hp hq hx hy => ?_
    refine qif (b := (decide (rst a x = []) || decide (rst b x = []))) (dtor (dtv (K := K) (DE.is (dELv rfl (.of hp) hx (dlst danil) (shaped_ints _) shaped_nil) (by rw [eqv_nil]; simp))) (fun _ => dtv (K := K) (DE.is (dELv rfl (.of hq) hy (dlst danil) (shaped_ints _) shaped_nil) (by rw [eqv_nil]; simp)))) (fun e H2 k2 => ?_) (fun e H2 k2 => ?_)
    · refine sretV (K := K) (d := .bool true) dbl rfl fun H3 k3 => k.to (k1.trans (k2.trans k3)) ?_
      unfold fillB; rw [if_pos (by simpa using e)]
    · have e' : ¬ (rst a x = [] ∨ rst b x = []) := by simpa using e
      have n1 : rst a x ≠ [] := fun q => e' (.inl q)
      have kk := k1.trans k2
      have hp2 := k2.get hp
      have hq2 := k2.get hq
      refine qif (b := (decide (1 < ((rst a x).length : Int)) || !decide (rst a x = rst b x))) (dtor (dtv (K := K) (DE.is (dB0 (dlenV rfl (.of hp2) (hx.kp k2)) dint) (by simp))) (fun _ => dtv (K := K) (DE.is (dNLvv rfl (.of hp2) (hx.kp k2) rfl (.of hq2) (hy.kp k2) (shaped_ints _) (shaped_ints _)) (by rw [eqv_intsL])))) (fun e2 H3 k3 => ?_) (fun e2 H3 k3 => ?_)
      · refine sretV (K := K) (d := .bool false) dbl rfl fun H4 k4 => k.to (kk.trans (k3.trans k4)) ?_
        unfold fillB; rw [if_neg e', if_pos (by simp at e2; rcases e2 with e2 | e2; exact .inl (by omega); exact .inr e2)]
      · have e3 : ¬ (1 < (rst a x).length ∨ rst a x ≠ rst b x) := by simp at e2; intro q; rcases q with q | q; omega; exact q e2.2
        obtain ⟨z, ez⟩ := one_of n1 (fun q => e3 (.inl q))
        obtain ⟨ax, rfl, hax⟩ := rst_in (a := a) (x := x) (i := z) (by rw [ez]; simp)
        have hA : a[ax]? = some (a[ax]'(by omega)) := get_lt (by omega)
        have hB : b[ax]? = some (b[ax]'(by omega)) := get_lt (by omega)
        have hS : x[ax]? = some (x[ax]) := get_lt hax
        generalize a[ax]'(by omega) = A1 at hA
        generalize b[ax]'(by omega) = B1 at hB
        generalize x[ax] = S1 at hS
        have hA' := B.pa A1 (List.mem_of_getElem? hA)
        have hB' := B.pb B1 (List.mem_of_getElem? hB)
        have hS' := B.px S1 (List.mem_of_getElem? hS)
        have kkk := kk.trans k3
        have d0 : DE K (tOp (rIxL K) (tVar 2) (tC (.int 0))) [some vp, some vx, some (.ref p), some (.ref q)] H3 (.int (ax : Int)) := dixV rfl (.of (k3.get hp2)) (hx.kp (k2.trans k3)) dint (by rw [ez]; exact at0')
        have eS : fillB a b x = sumB S1 A1 B1 := by
          unfold fillB
          rw [if_neg e', if_neg e3, ez]
          simp only [List.getD_cons_zero, Int.toNat_natCast]
          rw [getD_of hS, getD_of hA, getD_of hB]
        refine sretV (K := K) (d := .bool (sumB S1 A1 B1)) (dcall (ds := [.int S1, .int A1, .int B1]) (dacons (dix (dv rfl (ix.kp kkk)) d0 (atMap .int hS)) (dacons (dix (dix (dv rfl (ip.kp kkk)) dint at0) d0 (atMap .int hA)) (dacons (dix (dix (dv rfl (ip.kp kkk)) dint at1) d0 (atMap .int hB)) danil))) fun vs H4 k4 hv Q4 q4 => ?_) rfl fun H4 k4 => k.to (kkk.trans k4) (by rw [eS])
        obtain ⟨v1, v2, v3, rfl, i1, i2, i3⟩ := hv.inv3
        obtain rfl := i1.intI
        obtain rfl := i2.intI
        obtain rfl := i3.intI
        exact ⟨S1, A1, B1, rfl, hA'.1, hB'.1, hA'.2, hS'.1, hS'.2, fun H5 k5 => q4 _ H5 k5 (.bl _)⟩

abbrev nl_law_is_full : List Str := ["_law_page"]
theorem sc_law_is_full : FnScope nl_law_is_full ["_law_page"] (defScope s_law_is_full) := ⟨rfl, rfl, rfl, by decide +kernel, rfl, by decide +kernel, by decide +kernel⟩
def sp_law_is_full (K : PySem.W.Frag) : Sp := fun vs H Q _ => ∃ (vg : V) (a b x : List Int), vs = [vg] ∧ Im K H vg (pageD ((a, b), x)) ∧ Bx a b x ∧ RetV H Q (.bl (fillB a b x))
theorem ok_law_is_full (T : Txt K mg) : FnOk P w K mg base CX0 3 (He.ga K "_law_is_full") (fdA K (He.ga K "_law_is_full")) ["_law_page"] (sp_law_is_full K) := by
  refine T.f_law_is_full.ok sc_law_is_full (fun vs H Q E h => ?_) (fun cdv A outer s H vs Q E hr h => ?_)
  · obtain ⟨vg, a, b, x, rfl, ig, B, k⟩ := h
    rfl
  · have nd := sc_law_is_full.nd
    have hu := hr.units
    obtain ⟨vg, a, b, x, rfl, ig, B, k⟩ := h
    refine ⟨_, PSs.nox (pss_one (ps_ret (pe_call (ok_law_is_filled T) (hr.mono (by decide)) (by rfl) T.g_law_is_filled (T.f_law_is_filled.kp) (T.b_law_is_filled) .nil pass0 (pa_cons (pe_ix (ixT (K := K) rfl) (pv 0) pe_int (fun _ _ => rfl)) (pa_cons (pe_ix (ixT (K := K) rfl) (pv 0) pe_int (fun _ _ => rfl)) pa_nil))))), ?_⟩
    refine sretV (K := K) (d := .bool (fillB a b x)) (dcall (ds := [pairD (a, b), tI x]) (dacons (dix (dv rfl ig) dint at0) (dacons (dix (dv rfl ig) dint at1) danil)) fun vs H4 k4 hv Q4 q4 => ?_) rfl k
    obtain ⟨v1, v2, rfl, i1, i2⟩ := hv.inv2
    exact ⟨v1, v2, a, b, x, rfl, i1, i2, B, fun H5 k5 => q4 _ H5 k5 (.bl _)⟩

end
end TB
namespace TB
open PySem PySem.Spec PyProof.Rows L2
section
variable {P : Program} {w : World} {K : PySem.W.Frag} {mg : Str → Option Value} {base : Heap}

theorem setI (x : List Int) (ax : Nat) (s : Int) (h : ax < x.length) : cutD (x.map PyData.int) none (some (ax : Int)) ++ [PyData.int s] ++ cutD (x.map PyData.int) (some ((ax : Int) + 1)) none = (x.set ax s).map PyData.int := by
  rw [cutD_map, cutD_map, ← List.map_singleton, ← List.map_append, ← List.map_append]
  congr 1
  unfold cutD
  have e1 : ((ax : Int) + 1) = ((ax + 1 : Nat) : Int) := by omega
  rw [e1, HT.sIx_none, HT.sIx_nat, HT.sIx_nat, HT.sIx_none, Nat.min_eq_left (by omega), Nat.min_eq_left (by omega)]
  simp only [List.drop_zero, Nat.sub_zero]
  rw [List.set_eq_take_append_cons_drop, if_pos h, List.take_of_length_le (l := x.drop (ax + 1)) (by simp)]
  simp
theorem cutLen {α : Type} (l : List α) (lo hi : Option Int) : (cutD l lo hi).length ≤ l.length := by
  unfold cutD; rw [List.length_take, List.length_drop]; omega

abbrev nl_law_with : List Str := ["_law_sides_here", "_law_axis", "_law_side"]
theorem sc_law_with : FnScope nl_law_with ["_law_sides_here", "_law_axis", "_law_side"] (defScope s_law_with) := ⟨rfl, rfl, rfl, by decide +kernel, rfl, by decide +kernel, by decide +kernel⟩
def sp_law_with (K : PySem.W.Frag) : Sp := fun vs H Q _ => ∃ (vx : V) (x : List Int) (ax : Nat) (s : Int), vs = [vx, .int (ax : Int), .int s] ∧ Im K H vx (tI x) ∧ ax < x.length ∧ x.length ≤ 1000 ∧ Ret K H Q (tI (x.set ax s))
theorem ok_law_with (T : Txt K mg) : FnOk P w K mg base CX0 1 (He.ga K "_law_with") (fdA K (He.ga K "_law_with")) ["_law_sides_here", "_law_axis", "_law_side"] (sp_law_with K) := by
  refine T.f_law_with.ok sc_law_with (fun vs H Q E h => ?_) (fun cdv A outer s H vs Q E hr h => ?_)
  · obtain ⟨vx, x, ax, s1, rfl, ix, hax, h9, k⟩ := h
    rfl
  · have nd := sc_law_with.nd
    have hu := hr.units
    obtain ⟨vx, x, ax, s1, rfl, ix, hax, h9, k⟩ := h
    refine ⟨_, PSs.nox (pss_one (ps_ret (pe_op (opCatA (K := K) rfl) (pe_op (opCatA (K := K) rfl) (pe_slice (slA (K := K) rfl) (pv 0) po_none (po_some (pv 1))) (pe_tup (pa_cons (pv 2) pa_nil))) (pe_slice (slA (K := K) rfl) (pv 0) (po_some (pe_op op_add (pv 1) pe_int)) po_none)))), ?_⟩
    refine sret (K := K) (d := tI (x.set ax s1)) (DE.is (dcat (dcat (dslT (ds := x.map .int) (dv rfl ix) donone (dosome (K := K) (dv rfl (.int _)))) (dtup (dacons (dv rfl (.int s1)) danil)) ?_) (dslT (ds := x.map .int) (dv rfl ix) (dosome (K := K) (dI0 (dv rfl (.int _)) dint)) donone) ?_) (congrArg PyData.tuple (setI x ax s1 hax))) k
    · have := cutLen (x.map PyData.int) none (some (ax : Int)); simp at this ⊢; omega
    · have h1 := cutLen (x.map PyData.int) none (some (ax : Int))
      have h2 := cutLen (x.map PyData.int) (some ((ax : Int) + 1)) none
      simp at h1 h2 ⊢; omega

abbrev nl_law_is_part : List Str := ["_law_brick", "_law_box", "_law_axis", "_law_side"]
theorem sc_law_is_part : FnScope nl_law_is_part ["_law_brick", "_law_box", "_law_axis", "_law_side"] (defScope s_law_is_part) := ⟨rfl, rfl, rfl, by decide +kernel, rfl, by decide +kernel, by decide +kernel⟩
def sp_law_is_part (K : PySem.W.Frag) : Sp := fun vs H Q _ => ∃ (va vx : V) (a x : List Int) (ax : Nat) (s : Int), vs = [va, vx, .int (ax : Int), .int s] ∧ Im K H va (tI a) ∧ Im K H vx (tI x) ∧ x.length ≤ a.length ∧ (∀ s ∈ a, 0 < s) ∧ ax < x.length ∧ x.length ≤ 1000 ∧ RetV H Q (.bl (decide (s = 0) || decide (rst a (x.set ax s) = [])))
theorem ok_law_is_part (T : Txt K mg) : FnOk P w K mg base CX0 2 (He.ga K "_law_is_part") (fdA K (He.ga K "_law_is_part")) ["_law_brick", "_law_box", "_law_axis", "_law_side"] (sp_law_is_part K) := by
  refine T.f_law_is_part.ok sc_law_is_part (fun vs H Q E h => ?_) (fun cdv A outer s H vs Q E hr h => ?_)
  · obtain ⟨va, vx, a, x, ax, s1, rfl, ia, ix, hl, hp, hax, h9, k⟩ := h
    rfl
  · have nd := sc_law_is_part.nd
    have hu := hr.units
    obtain ⟨va, vx, a, x, ax, s1, rfl, ia, ix, hl, hp, hax, h9, k⟩ := h
    refine ⟨_, PSs.nox (pss_one (ps_ret (pe_or (pe_cmpR op_eq (pv 3) pe_int (nomark _)) (pe_one (pe_cmpR (opEqD (K := K) rfl hu) (pe_call (ok_law_rests T) (hr.mono (by decide)) (by rfl) T.g_law_rests (T.f_law_rests.kp) (T.b_law_rests) .nil pass0 (pa_cons (pv 0) (pa_cons (pe_call (ok_law_with T) (hr.mono (by decide)) (by rfl) T.g_law_with (T.f_law_with.kp) (T.b_law_with) .nil pass0 (pa_cons (pv 1) (pa_cons (pv 2) (pa_cons (pv 3) pa_nil)))) pa_nil))) (pe_lst pa_nil) (nomark _)))))), ?_⟩
    refine sretV (K := K) (d := .bool (decide (s1 = 0) || decide (rst a (x.set ax s1) = []))) (dor (DE.is (deq (dv rfl (.int s1)) dint rfl rfl rfl) (by simp)) fun e => DE.is (dEL (lawRst (a := a) (x := x.set ax s1) (dacons (dv rfl ia) (dacons (dcall (ds := [tI x, .int (ax : Int), .int s1]) (dacons (dv rfl ix) (dacons (dv rfl (.int _)) (dacons (dv rfl (.int _)) danil))) fun vs H1 k1 hv Q1 q1 => ?_) danil)) (by simp; omega) hp (by simp; omega)) (dlst danil) (shaped_ints _) shaped_nil) (by rw [eqv_nil]; simp)) rfl k
    obtain ⟨v1, v2, v3, rfl, i1, i2, i3⟩ := hv.inv3
    obtain rfl := i2.intI
    obtain rfl := i3.intI
    exact ⟨v1, x, ax, s1, rfl, i1, hax, h9, q1⟩

abbrev nl_law_is_cut : List Str := ["_law_pair_here", "_law_box", "_law_value", "_law_first", "_law_axis", "_law_at"]
theorem sc_law_is_cut : FnScope nl_law_is_cut ["_law_pair_here", "_law_box", "_law_value"] (defScope s_law_is_cut) := ⟨rfl, rfl, rfl, by decide +kernel, rfl, by decide +kernel, by decide +kernel⟩
def sp_law_is_cut (K : PySem.W.Frag) : Sp := fun vs H Q _ => ∃ (vp vx vv : V) (a b x : List Int) (c e : List Int) (f : Int) (ax : Nat) (at_ X : Int), vs = [vp, vx, vv] ∧ Im K H vp (pairD (a, b)) ∧ Im K H vx (tI x) ∧ Im K H vv (.tuple [.int f, .int (ax : Int), .int at_]) ∧ Bx a b x ∧ x[ax]? = some X ∧ ((f = 0 ∧ c = a ∧ e = b) ∨ (f = 1 ∧ c = b ∧ e = a)) ∧
  (decide (at_ = 0) || decide (rst c (x.set ax at_) = [])) = true ∧ (decide (X - at_ = 0) || decide (rst e (x.set ax (X - at_)) = [])) = true ∧ RetV H Q (.bl true)
theorem ok_law_is_cut (T : Txt K mg) : FnOk P w K mg base CX0 3 (He.ga K "_law_is_cut") (fdA K (He.ga K "_law_is_cut")) ["_law_pair_here", "_law_box", "_law_value"] (sp_law_is_cut K) := by
  refine T.f_law_is_cut.ok sc_law_is_cut (fun vs H Q E h => ?_) (fun cdv A outer s H vs Q E hr h => ?_)
  · obtain ⟨vp, vx, vv, a, b, x, c, e, f, ax, at_, X1, rfl, ip, ix, iv, B, hX, hf, h1, h2, k⟩ := h
    rfl
  · have nd := sc_law_is_cut.nd
    have hu := hr.units
    obtain ⟨vp, vx, vv, a, b, x, c, e, f, ax, at_, X1, rfl, ip, ix, iv, B, hX, hf, h1, h2, k⟩ := h
    refine ⟨_, PSs.nox (pss_cons (ps_asg (pv 2) (pgT (K := K) (n := 3) rfl rfl (pgs_cons (pg_name (i := 3) nd rfl (Or.inl rfl)) (pgs_cons (pg_name (i := 4) nd rfl (Or.inl rfl)) (pgs_cons (pg_name (i := 5) nd rfl (Or.inl rfl)) pgs_nil)))))
      (pss_cons (ps_if (pt_not (pt_val (pe_call (ok_law_is_part T) (hr.mono (by decide)) (by rfl) T.g_law_is_part (T.f_law_is_part.kp) (T.b_law_is_part) .nil pass0 (pa_cons (pe_ix (ixT (K := K) rfl) (pv 0) (pv 3) (fun _ _ => rfl)) (pa_cons (pv 1) (pa_cons (pv 4) (pa_cons (pv 5) pa_nil))))))) (pss_one (ps_ret pe_bl)) pss_nil)
      (pss_one (ps_ret (pe_call (ok_law_is_part T) (hr.mono (by decide)) (by rfl) T.g_law_is_part (T.f_law_is_part.kp) (T.b_law_is_part) .nil pass0 (pa_cons (pe_ix (ixT (K := K) rfl) (pv 0) (pe_op op_sub pe_int (pv 3)) (fun _ _ => rfl)) (pa_cons (pv 1) (pa_cons (pv 4) (pa_cons (pe_op op_sub (pe_ix (ixT (K := K) rfl) (pv 1) (pv 4) (fun _ _ => rfl)) (pv 5)) pa_nil))))))))), ?_⟩
    have hla := B.la
    have hlb := B.lb
    have hl4 := B.l4
    have hax := (List.getElem?_eq_some_iff.mp hX).1
    obtain ⟨p, xs, rfl, hs, hxs⟩ := iv.tupI
    obtain ⟨v1, v2, v3, rfl, i1, i2, i3⟩ := hxs.inv3
    obtain rfl := i1.intI
    obtain rfl := i2.intI
    obtain rfl := i3.intI
    refine ⟨_, rfl, p, _, rfl, hs, rfl, _, _, rfl, _, _, rfl, _, _, rfl, rfl, ?_⟩
    have hc : c.length = x.length ∧ (∀ s ∈ c, 0 < s) ∧ e.length = x.length ∧ (∀ s ∈ e, 0 < s) := by
      rcases hf with ⟨_, rfl, rfl⟩ | ⟨_, rfl, rfl⟩
      · exact ⟨hla, fun s hs => (B.pa s hs).1, hlb, fun s hs => (B.pb s hs).1⟩
      · exact ⟨hlb, fun s hs => (B.pb s hs).1, hla, fun s hs => (B.pa s hs).1⟩
    have gc : atI [tI a, tI b] f = some (tI c) := by
      rcases hf with ⟨rfl, rfl, rfl⟩ | ⟨rfl, rfl, rfl⟩
      · exact at0
      · exact at1
    have ge : atI [tI a, tI b] (1 - f) = some (tI e) := by
      rcases hf with ⟨rfl, rfl, rfl⟩ | ⟨rfl, rfl, rfl⟩
      · exact at1
      · exact at0
    refine qif (b := false) (DT.is (dtnot (dtB (K := K) (dcall (d := .bool true) (ds := [tI c, tI x, .int (ax : Int), .int at_]) (dacons (dix (dv rfl ip) (dv rfl (.int f)) gc) (dacons (dv rfl ix) (dacons (dv rfl (.int _)) (dacons (dv rfl (.int _)) danil)))) fun vs H1 k1 hv Q1 q1 => ?_))) rfl) (fun e => nomatch e) (fun _ H1 k1 => ?_)
    · obtain ⟨w1, w2, w3, w4, rfl, j1, j2, j3, j4⟩ := hv.inv4
      obtain rfl := j3.intI
      obtain rfl := j4.intI
      refine ⟨w1, w2, c, x, ax, at_, rfl, j1, j2, by omega, hc.2.1, hax, by omega, fun H2 k2 => q1 _ H2 k2 (by rw [h1]; exact .bl _)⟩
    · refine sretV (K := K) (d := .bool true) (dcall (ds := [tI e, tI x, .int (ax : Int), .int (X1 - at_)]) (dacons (dix (dv rfl (ip.kp k1)) (dI0 dint (dv rfl (.int f))) ge) (dacons (dv rfl (ix.kp k1)) (dacons (dv rfl (.int _)) (dacons (dI0 (dix (dv rfl (ix.kp k1)) (dv rfl (.int _)) (atMap .int hX)) (dv rfl (.int _))) danil)))) fun vs H1 k1 hv Q1 q1 => ?_) rfl fun H2 k2 => k H2 (k1.trans k2)
      obtain ⟨w1, w2, w3, w4, rfl, j1, j2, j3, j4⟩ := hv.inv4
      obtain rfl := j3.intI
      obtain rfl := j4.intI
      refine ⟨w1, w2, e, x, ax, X1 - at_, rfl, j1, j2, by omega, hc.2.2.2, hax, by omega, fun H2 k2 => q1 _ H2 k2 (by rw [h2]; exact .bl _)⟩

end
end TB
namespace TB
open PySem PySem.Spec PyProof.Rows L2
section
variable {P : Program} {w : World} {K : PySem.W.Frag} {mg : Str → Option Value} {base : Heap}

inductive PForm (a b x : List Int) : Str → List Int → Prop
  | cut0 : rst a x = [] → PForm a b x "cut" [0, 0, x.getD 0 0]
  | cut1 : rst b x = [] → PForm a b x "cut" [1, 0, x.getD 0 0]
  | cutm (ax : Nat) (A B S t : Int) : rst a x = [(ax : Int)] → rst b x = [(ax : Int)] → a[ax]? = some A → b[ax]? = some B → x[ax]? = some S → tmsOk A B S t → ¬ 0 < A * t - S → PForm a b x "cut" [0, (ax : Int), A * t]
  | sides (i j : Int) : i ∈ rst a x → j ∈ rst b x → i ≠ j → PForm a b x "sides" [i, j]
  | step (ax : Nat) (A B S : Int) : a[ax]? = some A → b[ax]? = some B → x[ax]? = some S → S % (Int.gcd A B : Int) ≠ 0 → PForm a b x "step" [(ax : Int)]
  | gap (ax : Nat) (A B S t : Int) : a[ax]? = some A → b[ax]? = some B → x[ax]? = some S → tmsOk A B S t → 0 < A * t - S → PForm a b x "gap" [(ax : Int), t, (A * t - S) / B]
theorem paper_form {a b x : List Int} {d : PyData} (h : PaperP a b x d) : ∃ w is, d = .tuple (.str w :: is.map .int) ∧ PyData.strOk w = true ∧ PForm a b x w is := by
  cases h with
  | all0 h => exact ⟨_, _, rfl, by decide +kernel, .cut0 h⟩
  | all1 _ h => exact ⟨_, _, rfl, by decide +kernel, .cut1 h⟩
  | sides i j h1 h2 h3 => exact ⟨_, _, rfl, by decide +kernel, .sides i j h1 h2 h3⟩
  | bar ax A B S d _ _ hA hB hS hn hb =>
    cases hb with
    | step hg => exact ⟨_, _, rfl, by decide +kernel, .step ax A B S hA hB hS hg⟩
    | gap t _ tm c => exact ⟨_, _, rfl, by decide +kernel, .gap ax A B S t hA hB hS tm c⟩
    | none _ _ _ _ => exact absurd rfl hn
  | cut ax A B S t h1 h2 hA hB hS _ tm c => exact ⟨_, _, rfl, by decide +kernel, .cutm ax A B S t h1 h2 hA hB hS tm c⟩
theorem PForm.ne {a b x : List Int} {w : Str} {is : List Int} (h : PForm a b x w is) : 1 ≤ is.length ∧ is.length ≤ 3 := by
  cases h <;> simp
theorem rst_one_set {a x : List Int} {ax : Nat} {s : Int} (h : ∀ z ∈ rst a x, z = (ax : Int)) (hs : a.getD ax 1 ∣ s) : rst a (x.set ax s) = [] := by
  rw [rst_nil]
  intro i hi
  rw [List.length_set] at hi
  by_cases e : i = ax
  · subst e
    rw [List.getD_eq_getElem?_getD (l := x.set i s), List.getElem?_set_self hi]; exact hs
  · rw [List.getD_eq_getElem?_getD (l := x.set ax s), List.getElem?_set_ne (fun q => e q.symm), ← List.getD_eq_getElem?_getD]
    by_cases d : a.getD i 1 ∣ x.getD i 0
    · exact d
    · exact absurd (Int.ofNat.inj (h _ (mem_rst.mpr ⟨hi, d⟩))) e
theorem rst_set_self {a x : List Int} (h : rst a x = []) : rst a (x.set 0 (x.getD 0 0)) = [] := by
  by_cases hx : 0 < x.length
  · exact rst_one_set (fun z hz => by rw [h] at hz; cases hz) (rst_nil.mp h 0 hx)
  · have : x = [] := by cases x with | nil => rfl | cons _ _ => simp at hx
    subst this; simp [rst, rstN]
theorem gcd_one_dvd {A B t S : Int} (h : tmsOk A B S t) : B ∣ S - A * t := by
  obtain ⟨_, _, k, hk⟩ := h
  exact ⟨-k, by rw [Int.mul_neg]; omega⟩
theorem shapedW {w : Str} (h : PyData.strOk w = true) (is : List Int) : SeqAt.shaped (.tuple (.str w :: is.map .int)) = true := by
  refine shaped_tup fun d hd => ?_
  rcases List.mem_cons.mp hd with rfl | hd
  · exact ⟨by rw [PyData.canLay0]; exact h, by simp [PyData.depth]⟩
  · obtain ⟨i, _, rfl⟩ := List.mem_map.mp hd
    exact ⟨by simp [PyData.canLay0], by simp [PyData.depth]⟩
theorem gv_none {n : Nat} {f : Nat → Bool} {v : Nat → PyData} (h : ∀ i, i < n → f i = false) : gv n f v = [] := by
  unfold gv
  rw [List.filter_eq_nil_iff.mpr (fun i hi => by rw [h i (by simpa using hi)]; simp)]; rfl
theorem tailD (w : Str) (is : List Int) : cutD (PyData.str w :: is.map PyData.int) (some 1) none = is.map PyData.int := by
  unfold cutD
  have e1 : (1 : Int) = ((1 : Nat) : Int) := rfl
  rw [e1, HT.sIx_nat, HT.sIx_none]
  simp [List.take_of_length_le]

abbrev nl_law_paper_holds : List Str := ["_law_pair_here", "_law_box", "_law_value", "_law_last", "_law_part", "_law_one_here", "_law_other", "_law_side"]
theorem sc_law_paper_holds : FnScope nl_law_paper_holds ["_law_pair_here", "_law_box", "_law_value"] (defScope s_law_paper_holds) := ⟨rfl, rfl, rfl, by decide +kernel, rfl, by decide +kernel, by decide +kernel⟩
def sp_law_paper_holds (K : PySem.W.Frag) : Sp := fun vs H Q _ => ∃ (vp vx vv : V) (a b x : List Int) (d : PyData), vs = [vp, vx, vv] ∧ Im K H vp (pairD (a, b)) ∧ Im K H vx (tI x) ∧ Im K H vv d ∧ Bx a b x ∧ PaperP a b x d ∧ RetV H Q (.bl true)
theorem ok_law_paper_holds (T : Txt K mg) : FnOk P w K mg base CX0 4 (He.ga K "_law_paper_holds") (fdA K (He.ga K "_law_paper_holds")) ["_law_pair_here", "_law_box", "_law_value"] (sp_law_paper_holds K) := by
  refine T.f_law_paper_holds.ok sc_law_paper_holds (fun vs H Q E h => ?_) (fun cdv A outer s H vs Q E hr h => ?_)
  · obtain ⟨vp, vx, vv, a, b, x, d, rfl, ip, ix, iv, B, hd, k⟩ := h
    rfl
  · have nd := sc_law_paper_holds.nd
    have hu := hr.units
    obtain ⟨vp, vx, vv, a, b, x, d, rfl, ip, ix, iv, B, hd, k⟩ := h
    refine ⟨_, PSs.nox (pss_cons (ps_if (PW.pt (pw_or (pt_not (pt_val (pe_callB (clIsi (K := K) rfl) (by rfl) T.n_isinstance (by decide +kernel) (pa_cons (pv 2) (pa_cons (pe_bltn (v := .ty "tuple") (by rfl) T.n_tuple (by decide +kernel) rfl) pa_nil))))) (pw_or (pt_cmpR (opEqD (K := K) rfl hu) (pv 2) (pe_tup pa_nil) (nomark _)) (pw_or1 (pt_not (pt_val (pe_callB (clIsi (K := K) rfl) (by rfl) T.n_isinstance (by decide +kernel) (pa_cons (pe_ix (ixT (K := K) rfl) (pv 2) pe_int (fun _ _ => rfl)) (pa_cons (pe_bltn (v := .ty "str") (by rfl) T.n_str (by decide +kernel) rfl) pa_nil))))))))) (pss_one (ps_ret pe_bl)) pss_nil)
      (pss_cons (ps_set (i := 3) nd rfl (Or.inl rfl) (pe_op op_sub (pe_callB (clLen (K := K) rfl) (by rfl) T.n_len (by decide +kernel) (pa_cons (pv 1) pa_nil)) pe_int))
      (pss_cons (ps_if (pt_cmpR (opNeD (K := K) rfl hu) (pe_lc (own := [("_law_part", 4)]) rfl nd (piT (K := K) rfl (pe_slice (slA (K := K) rfl) (pv 2) (po_some pe_int) po_none)) (blkOk_by (N := nl_law_paper_holds) (sc := defScope s_law_paper_holds) (by decide +kernel)) (fun _ _ _ _ _ => (pg_name (i := 4) nd rfl (Or.inl rfl))) (fun _ _ _ _ _ => (pts_one (PW.pt (pw_or (pt_val (pe_callB (clIsi (K := K) rfl) (by rfl) T.n_isinstance (by decide +kernel) (pa_cons (pv 4) (pa_cons (pe_bltn (v := .ty "bool") (by rfl) T.n_bool (by decide +kernel) rfl) pa_nil)))) (pw_or1 (pt_not (pt_val (pe_callB (clIsi (K := K) rfl) (by rfl) T.n_isinstance (by decide +kernel) (pa_cons (pv 4) (pa_cons (pe_bltn (v := .ty "int") (by rfl) T.n_int (by decide +kernel) rfl) pa_nil)))))))))) (fun _ _ _ _ _ => (pv 4))) (pe_lst pa_nil) (nomark _)) (pss_one (ps_ret pe_bl)) pss_nil)
      (pss_cons (ps_if (PW.pt (pw_and (pt_cmpR op_eq (pe_ix (ixT (K := K) rfl) (pv 2) pe_int (fun _ _ => rfl)) pe_str (nomark _)) (pw_and (pt_cmpR op_eq (pe_callB (clLen (K := K) rfl) (by rfl) T.n_len (by decide +kernel) (pa_cons (pv 2) pa_nil)) pe_int (nomark _)) (pw_and (pt_chain op_le op_le pe_int (pe_ix (ixT (K := K) rfl) (pv 2) pe_int (fun _ _ => rfl)) pe_int) (pw_and1 (pt_chain op_le op_le pe_int (pe_ix (ixT (K := K) rfl) (pv 2) pe_int (fun _ _ => rfl)) (pv 3))))))) (pss_one (ps_ret (pe_and (pe_chain op_le op_le pe_int (pe_ix (ixT (K := K) rfl) (pv 2) pe_int (fun _ _ => rfl)) (pe_ix (ixT (K := K) rfl) (pv 1) (pe_ix (ixT (K := K) rfl) (pv 2) pe_int (fun _ _ => rfl)) (fun _ _ => rfl))) (pe_one (pe_call (ok_law_is_cut T) (hr.mono (by decide)) (by rfl) T.g_law_is_cut (T.f_law_is_cut.kp) (T.b_law_is_cut) .nil pass0 (pa_cons (pv 0) (pa_cons (pv 1) (pa_cons (pe_slice (slA (K := K) rfl) (pv 2) (po_some pe_int) po_none) pa_nil)))))))) pss_nil)
      (pss_cons (ps_if (PW.pt (pw_and (pt_cmpR op_eq (pe_ix (ixT (K := K) rfl) (pv 2) pe_int (fun _ _ => rfl)) pe_str (nomark _)) (pw_and (pt_cmpR op_eq (pe_callB (clLen (K := K) rfl) (by rfl) T.n_len (by decide +kernel) (pa_cons (pv 2) pa_nil)) pe_int (nomark _)) (pw_and1 (pt_cmpR op_ne (pe_ix (ixT (K := K) rfl) (pv 2) pe_int (fun _ _ => rfl)) (pe_ix (ixT (K := K) rfl) (pv 2) pe_int (fun _ _ => rfl)) (nomark _)))))) (pss_one (ps_ret (pe_and (pe_cmpR (opIn (K := K) rfl) (pe_ix (ixT (K := K) rfl) (pv 2) pe_int (fun _ _ => rfl)) (pe_call (ok_law_rests T) (hr.mono (by decide)) (by rfl) T.g_law_rests (T.f_law_rests.kp) (T.b_law_rests) .nil pass0 (pa_cons (pe_ix (ixT (K := K) rfl) (pv 0) pe_int (fun _ _ => rfl)) (pa_cons (pv 1) pa_nil))) (by rfl)) (pe_one (pe_cmpR (opIn (K := K) rfl) (pe_ix (ixT (K := K) rfl) (pv 2) pe_int (fun _ _ => rfl)) (pe_call (ok_law_rests T) (hr.mono (by decide)) (by rfl) T.g_law_rests (T.f_law_rests.kp) (T.b_law_rests) .nil pass0 (pa_cons (pe_ix (ixT (K := K) rfl) (pv 0) pe_int (fun _ _ => rfl)) (pa_cons (pv 1) pa_nil))) (by rfl)))))) pss_nil)
      (pss_cons (ps_if (PW.pt (pw_or (pt_cmpR op_lt (pe_callB (clLen (K := K) rfl) (by rfl) T.n_len (by decide +kernel) (pa_cons (pv 2) pa_nil)) pe_int (nomark _)) (pw_or1 (pt_not (pt_chain op_le op_le pe_int (pe_ix (ixT (K := K) rfl) (pv 2) pe_int (fun _ _ => rfl)) (pv 3)))))) (pss_one (ps_ret pe_bl)) pss_nil)
      (pss_cons (ps_par3 (i := 5) (j := 6) (l := 7) rfl nd rfl rfl rfl (by decide) (by decide) (by decide) rfl rfl rfl (pa_cons (pe_ix (ixT (K := K) rfl) (pe_ix (ixT (K := K) rfl) (pv 0) pe_int (fun _ _ => rfl)) (pe_ix (ixT (K := K) rfl) (pv 2) pe_int (fun _ _ => rfl)) (fun _ _ => rfl)) (pa_cons (pe_ix (ixT (K := K) rfl) (pe_ix (ixT (K := K) rfl) (pv 0) pe_int (fun _ _ => rfl)) (pe_ix (ixT (K := K) rfl) (pv 2) pe_int (fun _ _ => rfl)) (fun _ _ => rfl)) (pa_cons (pe_ix (ixT (K := K) rfl) (pv 1) (pe_ix (ixT (K := K) rfl) (pv 2) pe_int (fun _ _ => rfl)) (fun _ _ => rfl)) pa_nil))) (by rfl))
      (pss_cons (ps_set (i := 4) nd rfl (Or.inl rfl) (pe_call (ok_law_divisor T) (hr.mono (by decide)) (by rfl) T.g_law_divisor (T.f_law_divisor.kp) (T.b_law_divisor) .nil pass0 (pa_cons (pv 5) (pa_cons (pv 6) pa_nil))))
      (pss_cons (ps_if (PW.pt (pw_and (pt_cmpR op_eq (pe_ix (ixT (K := K) rfl) (pv 2) pe_int (fun _ _ => rfl)) pe_str (nomark _)) (pw_and1 (pt_cmpR op_eq (pe_callB (clLen (K := K) rfl) (by rfl) T.n_len (by decide +kernel) (pa_cons (pv 2) pa_nil)) pe_int (nomark _))))) (pss_one (ps_ret (pe_cmpR op_ne (pe_op op_mod (pe_callTy call_int1 (by rfl) T.n_int (by decide +kernel) (pa_cons (pv 7) pa_nil)) (pv 4)) pe_int (nomark _)))) pss_nil)
      (pss_cons (ps_if (PW.pt (pw_or (pt_cmpR op_ne (pe_ix (ixT (K := K) rfl) (pv 2) pe_int (fun _ _ => rfl)) pe_str (nomark _)) (pw_or (pt_cmpR op_ne (pe_callB (clLen (K := K) rfl) (by rfl) T.n_len (by decide +kernel) (pa_cons (pv 2) pa_nil)) pe_int (nomark _)) (pw_or (pt_not (pt_chain op_le op_lt pe_int (pe_ix (ixT (K := K) rfl) (pv 2) pe_int (fun _ _ => rfl)) (pe_op op_fdivW (pv 6) (pv 4)))) (pw_or1 (pt_cmpR op_lt (pe_ix (ixT (K := K) rfl) (pv 2) pe_int (fun _ _ => rfl)) pe_int (nomark _))))))) (pss_one (ps_ret pe_bl)) pss_nil)
      (pss_one (ps_ret (pe_cmpR op_eq (pe_op op_sub (pe_op op_mul (pv 5) (pe_ix (ixT (K := K) rfl) (pv 2) pe_int (fun _ _ => rfl))) (pe_op op_mul (pv 6) (pe_ix (ixT (K := K) rfl) (pv 2) pe_int (fun _ _ => rfl)))) (pv 7) (nomark _)))))))))))))), ?_⟩
    obtain ⟨u0, is, rfl, hw, F⟩ := paper_form hd
    have hla := B.la
    have hlb := B.lb
    have hl1 := B.l1
    have hl4 := B.l4
    have hne := F.ne
    refine qif (b := false) (DT.is (dtor (dtnot (dtB (K := K) (disi (T := "tuple") (b := true) (dv rfl iv) (by show kitB "tuple" "tuple" = some true; decide +kernel)))) (fun _ => dtor (dtv (K := K) (dE (dv rfl iv) (dtup danil) (shapedW hw is) (by decide))) (fun _ => dtnot (dtB (K := K) (disi (T := "str") (b := true) (dix (dv rfl iv) dint (atI_nat (j := 0) rfl)) (by show kitB "str" "str" = some true; decide +kernel)))))) (by simp [PyData.eqv, PyData.eqvAll])) (fun e => nomatch e) (fun _ H1 k1 => ?_)
    refine qasg (K := K) (d := .int ((x.length : Int) - 1)) (DE.is (dI0 (dlen (ds := x.map .int) (dv rfl (ix.kp k1))) dint) (by simp)) fun v H2 k2 hv => ?_
    obtain rfl := hv.intI
    have k12 := k1.trans k2
    refine qif (b := false) (dtv (K := K) (DE.is (dNL (dlcT (K := K) (ds := is.map .int) (fun _ => false) (fun _ => .none) (DE.is (dslT (dv rfl (iv.kp k12)) (dosome (K := K) dint) donone) (congrArg PyData.tuple (tailD _ _))) (by simp; omega) (fun _ => rfl) (fun i y e H3 k3 he hy => ?_) (fun i y e H3 k3 he hy hf => nomatch hf)) (dlst danil) (by rw [gv_none (fun _ _ => rfl)]; exact shaped_nil) shaped_nil) (by rw [eqv_nil, gv_none (fun _ _ => rfl)]; rfl))) (fun e => nomatch e) (fun _ H3 k3 => ?_)
    · obtain ⟨z, _, rfl⟩ := getMap he
      exact DT.is (dtor (dtB (K := K) (disi (T := "bool") (b := false) (dv rfl hy) (by show kitB "int" "bool" = some false; decide +kernel))) (fun _ => dtnot (dtB (K := K) (disi (T := "int") (b := true) (dv rfl hy) (by show kitB "int" "int" = some true; decide +kernel))))) rfl
    have kk := k12.trans k3
    have ip3 := ip.kp kk
    have ix3 := ix.kp kk
    have iv3 := iv.kp kk
    clear hd
    cases F with
    | cut0 h =>
      have hx0 : x[0]? = some (x.getD 0 0) := by rw [List.getD_eq_getElem?_getD, get_lt hl1]; rfl
      have px := B.px _ (List.mem_of_getElem? hx0)
      refine qif (b := true) (DT.is (dtand (dtv (K := K) (DE.is (deq (dix (dv rfl iv3) dint (atI_nat (j := 0) rfl)) dstr rfl rfl rfl) (congrArg PyData.bool (show _ = true by decide +kernel)))) (fun _ => dtand (dtv (K := K) (deq (dlen (dv rfl iv3)) dint rfl rfl rfl)) (fun _ => dtand (dtv (K := K) (dch dint (dix (dv rfl iv3) dint (atI_nat (j := 1) rfl)) dint)) (fun _ => dtv (K := K) (dch dint (dix (dv rfl iv3) dint (atI_nat (j := 2) rfl)) (dv rfl (.int _))))))) (by simp; omega)) (fun _ H4 k4 => ?_) (fun e => nomatch e)
      refine sretV (K := K) (d := .bool true) (DE.is (dand (b := true) (dch dint (dix (dv rfl (iv3.kp k4)) dint (atI_nat (j := 3) rfl)) (dix (dv rfl (ix3.kp k4)) (dix (dv rfl (iv3.kp k4)) dint (atI_nat (j := 2) rfl)) (atMap (i := 0) .int hx0))) (fun _ => dcall (ds := [pairD (a, b), tI x, .tuple [.int 0, .int ((0 : Nat) : Int), .int (x.getD 0 0)]]) (dacons (dv rfl (ip3.kp k4)) (dacons (dv rfl (ix3.kp k4)) (dacons (DE.is (dslT (dv rfl (iv3.kp k4)) (dosome (K := K) dint) donone) (congrArg PyData.tuple (tailD "cut" [0, 0, x.getD 0 0]))) danil))) fun vs H5 k5 hv Q5 q5 => ?_)) (by simp [-List.getD_eq_getElem?_getD]; omega)) rfl fun H5 k5 => k H5 (kk.trans (k4.trans k5))
      obtain ⟨v1, v2, v3, rfl, i1, i2, i3⟩ := hv.inv3
      exact ⟨v1, v2, v3, a, b, x, a, b, 0, 0, _, _, rfl, i1, i2, i3, B, hx0, .inl ⟨rfl, rfl, rfl⟩, by rw [rst_set_self h]; simp, by simp, fun H6 k6 => q5 _ H6 k6 (.bl _)⟩
    | cut1 h =>
      have hx0 : x[0]? = some (x.getD 0 0) := by rw [List.getD_eq_getElem?_getD, get_lt hl1]; rfl
      have px := B.px _ (List.mem_of_getElem? hx0)
      refine qif (b := true) (DT.is (dtand (dtv (K := K) (DE.is (deq (dix (dv rfl iv3) dint (atI_nat (j := 0) rfl)) dstr rfl rfl rfl) (congrArg PyData.bool (show _ = true by decide +kernel)))) (fun _ => dtand (dtv (K := K) (deq (dlen (dv rfl iv3)) dint rfl rfl rfl)) (fun _ => dtand (dtv (K := K) (dch dint (dix (dv rfl iv3) dint (atI_nat (j := 1) rfl)) dint)) (fun _ => dtv (K := K) (dch dint (dix (dv rfl iv3) dint (atI_nat (j := 2) rfl)) (dv rfl (.int _))))))) (by simp; omega)) (fun _ H4 k4 => ?_) (fun e => nomatch e)
      refine sretV (K := K) (d := .bool true) (DE.is (dand (b := true) (dch dint (dix (dv rfl (iv3.kp k4)) dint (atI_nat (j := 3) rfl)) (dix (dv rfl (ix3.kp k4)) (dix (dv rfl (iv3.kp k4)) dint (atI_nat (j := 2) rfl)) (atMap (i := 0) .int hx0))) (fun _ => dcall (ds := [pairD (a, b), tI x, .tuple [.int 1, .int ((0 : Nat) : Int), .int (x.getD 0 0)]]) (dacons (dv rfl (ip3.kp k4)) (dacons (dv rfl (ix3.kp k4)) (dacons (DE.is (dslT (dv rfl (iv3.kp k4)) (dosome (K := K) dint) donone) (congrArg PyData.tuple (tailD "cut" [1, 0, x.getD 0 0]))) danil))) fun vs H5 k5 hv Q5 q5 => ?_)) (by simp [-List.getD_eq_getElem?_getD]; omega)) rfl fun H5 k5 => k H5 (kk.trans (k4.trans k5))
      obtain ⟨v1, v2, v3, rfl, i1, i2, i3⟩ := hv.inv3
      exact ⟨v1, v2, v3, a, b, x, b, a, 1, 0, _, _, rfl, i1, i2, i3, B, hx0, .inr ⟨rfl, rfl, rfl⟩, by rw [rst_set_self h]; simp, by simp, fun H6 k6 => q5 _ H6 k6 (.bl _)⟩
    | cutm ax A1 B1 S t h1 h2 hA hB hS tm c =>
      have hax := (List.getElem?_eq_some_iff.mp hS).1
      have pA := B.pa A1 (List.mem_of_getElem? hA)
      have pB := B.pb B1 (List.mem_of_getElem? hB)
      have t0 : 0 ≤ A1 * t := Int.mul_nonneg (by omega) tm.1
      refine qif (b := true) (DT.is (dtand (dtv (K := K) (DE.is (deq (dix (dv rfl iv3) dint (atI_nat (j := 0) rfl)) dstr rfl rfl rfl) (congrArg PyData.bool (show _ = true by decide +kernel)))) (fun _ => dtand (dtv (K := K) (deq (dlen (dv rfl iv3)) dint rfl rfl rfl)) (fun _ => dtand (dtv (K := K) (dch dint (dix (dv rfl iv3) dint (atI_nat (j := 1) rfl)) dint)) (fun _ => dtv (K := K) (dch dint (dix (dv rfl iv3) dint (atI_nat (j := 2) rfl)) (dv rfl (.int _))))))) (by simp; omega)) (fun _ H4 k4 => ?_) (fun e => nomatch e)
      refine sretV (K := K) (d := .bool true) (DE.is (dand (b := true) (dch dint (dix (dv rfl (iv3.kp k4)) dint (atI_nat (j := 3) rfl)) (dix (dv rfl (ix3.kp k4)) (dix (dv rfl (iv3.kp k4)) dint (atI_nat (j := 2) rfl)) (atMap (i := ax) .int hS))) (fun _ => dcall (ds := [pairD (a, b), tI x, .tuple [.int 0, .int (ax : Int), .int (A1 * t)]]) (dacons (dv rfl (ip3.kp k4)) (dacons (dv rfl (ix3.kp k4)) (dacons (DE.is (dslT (dv rfl (iv3.kp k4)) (dosome (K := K) dint) donone) (congrArg PyData.tuple (tailD "cut" [0, (ax : Int), A1 * t]))) danil))) fun vs H5 k5 hv Q5 q5 => ?_)) (by simp; omega)) rfl fun H5 k5 => k H5 (kk.trans (k4.trans k5))
      obtain ⟨v1, v2, v3, rfl, i1, i2, i3⟩ := hv.inv3
      refine ⟨v1, v2, v3, a, b, x, a, b, 0, ax, _, S, rfl, i1, i2, i3, B, hS, .inl ⟨rfl, rfl, rfl⟩, ?_, ?_, fun H6 k6 => q5 _ H6 k6 (.bl _)⟩
      · rw [rst_one_set (fun z hz => by rw [h1] at hz; simpa using hz) (by rw [getD_of hA]; exact Int.dvd_mul_right _ _)]; simp
      · rw [rst_one_set (fun z hz => by rw [h2] at hz; simpa using hz) (by rw [getD_of hB]; exact gcd_one_dvd tm)]; simp
    | sides i j h1 h2 hij =>
      refine qif (b := false) (DT.is (dtand (b := false) (dtv (K := K) (DE.is (deq (dix (dv rfl iv3) dint (atI_nat (j := 0) rfl)) dstr rfl rfl rfl) (congrArg PyData.bool (show _ = false by decide +kernel)))) (fun e => nomatch e)) rfl) (fun e => nomatch e) (fun _ H4 k4 => ?_)
      have kk4 := kk.trans k4
      have iv4 := iv3.kp k4
      refine qif (b := true) (DT.is (dtand (dtv (K := K) (DE.is (deq (dix (dv rfl iv4) dint (atI_nat (j := 0) rfl)) dstr rfl rfl rfl) (congrArg PyData.bool (show _ = true by decide +kernel)))) (fun _ => dtand (dtv (K := K) (deq (dlen (dv rfl iv4)) dint rfl rfl rfl)) (fun _ => dtv (K := K) (dne (dix (dv rfl iv4) dint (atI_nat (j := 1) rfl)) (dix (dv rfl iv4) dint (atI_nat (j := 2) rfl)) rfl rfl rfl)))) (by simp [hij])) (fun _ H5 k5 => ?_) (fun e => nomatch e)
      have ip5 := (ip3.kp k4).kp k5
      have ix5 := (ix3.kp k4).kp k5
      refine sretV (K := K) (d := .bool true) (DE.is (dand (dinL (dix (dv rfl (iv4.kp k5)) dint (atI_nat (j := 1) rfl)) (lawRst (a := a) (x := x) (dacons (dix (dv rfl ip5) dint at0) (dacons (dv rfl ix5) danil)) (by omega) (fun s hs => (B.pa s hs).1) (by omega))) (fun _ => dinL (dix (dv rfl (iv4.kp k5)) dint (atI_nat (j := 2) rfl)) (lawRst (a := b) (x := x) (dacons (dix (dv rfl ip5) dint at1) (dacons (dv rfl ix5) danil)) (by omega) (fun s hs => (B.pb s hs).1) (by omega)))) (by simp [h1, h2])) rfl fun H6 k6 => k H6 (kk4.trans (k5.trans k6))
    | step ax A1 B1 S hA hB hS hg =>
      have hax := (List.getElem?_eq_some_iff.mp hS).1
      have pA := B.pa A1 (List.mem_of_getElem? hA)
      have pB := B.pb B1 (List.mem_of_getElem? hB)
      refine qif (b := false) (DT.is (dtand (b := false) (dtv (K := K) (DE.is (deq (dix (dv rfl iv3) dint (atI_nat (j := 0) rfl)) dstr rfl rfl rfl) (congrArg PyData.bool (show _ = false by decide +kernel)))) (fun e => nomatch e)) rfl) (fun e => nomatch e) (fun _ H4 k4 => ?_)
      refine qif (b := false) (DT.is (dtand (b := false) (dtv (K := K) (DE.is (deq (dix (dv rfl (iv3.kp k4)) dint (atI_nat (j := 0) rfl)) dstr rfl rfl rfl) (congrArg PyData.bool (show _ = false by decide +kernel)))) (fun e => nomatch e)) rfl) (fun e => nomatch e) (fun _ H5 k5 => ?_)
      have k5' := k4.trans k5
      have kk5 := kk.trans k5'
      have iv5 := iv3.kp k5'
      have ip5 := ip3.kp k5'
      have ix5 := ix3.kp k5'
      refine qif (b := false) (DT.is (dtor (dtv (K := K) (dB0 (dlen (dv rfl iv5)) dint)) (fun _ => dtnot (dtv (K := K) (dch dint (dix (dv rfl iv5) dint (atI_nat (j := 1) rfl)) (dv rfl (.int _)))))) (by simp; omega)) (fun e => nomatch e) (fun _ H6 k6 => ?_)
      have iv6 := iv5.kp k6
      have ip6 := ip5.kp k6
      refine q3p (K := K) (dacons (dix (dix (dv rfl ip6) dint at0) (dix (dv rfl iv6) dint (atI_nat (j := 1) rfl)) (atMap (i := ax) .int hA)) (dacons (dix (dix (dv rfl ip6) dint at1) (dix (dv rfl iv6) dint (atI_nat (j := 1) rfl)) (atMap (i := ax) .int hB)) (dacons (dix (dv rfl (ix5.kp k6)) (dix (dv rfl iv6) dint (atI_nat (j := 1) rfl)) (atMap (i := ax) .int hS)) danil))) fun v1 v2 v3 H7 k7 i1 i2 i3 => ?_
      obtain rfl := i1.intI
      obtain rfl := i2.intI
      obtain rfl := i3.intI
      refine qasg (K := K) (d := .int (Int.gcd A1 B1)) (dcall (ds := [.int A1, .int B1]) (dacons (dv rfl (.int _)) (dacons (dv rfl (.int _)) danil)) fun vs H8 k8 hv Q8 q8 => ?_) fun v H8 k8 hv => ?_
      · obtain ⟨w1, w2, rfl, j1, j2⟩ := hv.inv2
        obtain rfl := j1.intI
        obtain rfl := j2.intI
        exact ⟨A1, B1, rfl, by omega, by omega, fun H9 k9 => q8 _ H9 k9 (.int _)⟩
      obtain rfl := hv.intI
      have kk8 := kk5.trans (k6.trans (k7.trans k8))
      refine qif (b := true) (DT.is (dtand (dtv (K := K) (DE.is (deq (dix (dv rfl (iv6.kp (k7.trans k8))) dint (atI_nat (j := 0) rfl)) dstr rfl rfl rfl) (congrArg PyData.bool (show _ = true by decide +kernel)))) (fun _ => dtv (K := K) (deq (dlen (dv rfl (iv6.kp (k7.trans k8)))) dint rfl rfl rfl))) (by simp)) (fun _ H9 k9 => ?_) (fun e => nomatch e)
      refine sretV (K := K) (d := .bool true) (DE.is (dne (dI (dcint (dv rfl (.int S))) (dv rfl (.int _)) (gcd_pos' pA.1)) dint rfl rfl rfl) (by simp; exact hg)) rfl fun H10 k10 => k H10 (kk8.trans (k9.trans k10))
    | gap ax A1 B1 S t hA hB hS tm c =>
      have hax := (List.getElem?_eq_some_iff.mp hS).1
      have pA := B.pa A1 (List.mem_of_getElem? hA)
      have pB := B.pb B1 (List.mem_of_getElem? hB)
      have tl := tms_le tm pB.1
      have hg := gcd_pos' (b := B1) pA.1
      have hgl := gcd_le' (b := B1) pA.1
      have dvd : (A1 * t - S) / B1 * B1 = A1 * t - S := Int.ediv_mul_cancel (by have := gcd_one_dvd tm; obtain ⟨q, hq⟩ := this; exact ⟨-q, by rw [Int.mul_neg]; omega⟩)
      have v1p : 1 ≤ (A1 * t - S) / B1 := by
        rcases Int.lt_or_le ((A1 * t - S) / B1) 1 with h | h
        · have : (A1 * t - S) / B1 * B1 ≤ 0 * B1 := Int.mul_le_mul_of_nonneg_right (by omega) (by omega)
          omega
        · exact h
      refine qif (b := false) (DT.is (dtand (b := false) (dtv (K := K) (DE.is (deq (dix (dv rfl iv3) dint (atI_nat (j := 0) rfl)) dstr rfl rfl rfl) (congrArg PyData.bool (show _ = false by decide +kernel)))) (fun e => nomatch e)) rfl) (fun e => nomatch e) (fun _ H4 k4 => ?_)
      refine qif (b := false) (DT.is (dtand (b := false) (dtv (K := K) (DE.is (deq (dix (dv rfl (iv3.kp k4)) dint (atI_nat (j := 0) rfl)) dstr rfl rfl rfl) (congrArg PyData.bool (show _ = false by decide +kernel)))) (fun e => nomatch e)) rfl) (fun e => nomatch e) (fun _ H5 k5 => ?_)
      have k5' := k4.trans k5
      have kk5 := kk.trans k5'
      have iv5 := iv3.kp k5'
      have ip5 := ip3.kp k5'
      have ix5 := ix3.kp k5'
      refine qif (b := false) (DT.is (dtor (dtv (K := K) (dB0 (dlen (dv rfl iv5)) dint)) (fun _ => dtnot (dtv (K := K) (dch dint (dix (dv rfl iv5) dint (atI_nat (j := 1) rfl)) (dv rfl (.int _)))))) (by simp; omega)) (fun e => nomatch e) (fun _ H6 k6 => ?_)
      have iv6 := iv5.kp k6
      have ip6 := ip5.kp k6
      refine q3p (K := K) (dacons (dix (dix (dv rfl ip6) dint at0) (dix (dv rfl iv6) dint (atI_nat (j := 1) rfl)) (atMap (i := ax) .int hA)) (dacons (dix (dix (dv rfl ip6) dint at1) (dix (dv rfl iv6) dint (atI_nat (j := 1) rfl)) (atMap (i := ax) .int hB)) (dacons (dix (dv rfl (ix5.kp k6)) (dix (dv rfl iv6) dint (atI_nat (j := 1) rfl)) (atMap (i := ax) .int hS)) danil))) fun v1 v2 v3 H7 k7 i1 i2 i3 => ?_
      obtain rfl := i1.intI
      obtain rfl := i2.intI
      obtain rfl := i3.intI
      refine qasg (K := K) (d := .int (Int.gcd A1 B1)) (dcall (ds := [.int A1, .int B1]) (dacons (dv rfl (.int _)) (dacons (dv rfl (.int _)) danil)) fun vs H8 k8 hv Q8 q8 => ?_) fun v H8 k8 hv => ?_
      · obtain ⟨w1, w2, rfl, j1, j2⟩ := hv.inv2
        obtain rfl := j1.intI
        obtain rfl := j2.intI
        exact ⟨A1, B1, rfl, by omega, by omega, fun H9 k9 => q8 _ H9 k9 (.int _)⟩
      obtain rfl := hv.intI
      have kk8 := kk5.trans (k6.trans (k7.trans k8))
      have iv8 := iv6.kp (k7.trans k8)
      refine qif (b := false) (DT.is (dtand (b := false) (dtv (K := K) (DE.is (deq (dix (dv rfl iv8) dint (atI_nat (j := 0) rfl)) dstr rfl rfl rfl) (congrArg PyData.bool (show _ = false by decide +kernel)))) (fun e => nomatch e)) rfl) (fun e => nomatch e) (fun _ H9 k9 => ?_)
      have iv9 := iv8.kp k9
      have hgd : CDivW B1 (Int.gcd A1 B1 : Int) := wide_div hg (b := 40) (by omega) (by decide) (by decide)
      refine qif (b := false) (DT.is (dtor (dtv (K := K) (DE.is (dne (dix (dv rfl iv9) dint (atI_nat (j := 0) rfl)) dstr rfl rfl rfl) (congrArg PyData.bool (show _ = false by decide +kernel)))) (fun _ => dtor (dtv (K := K) (dne (dlen (dv rfl iv9)) dint rfl rfl rfl)) (fun _ => dtor (dtnot (dtv (K := K) (dch dint (dix (dv rfl iv9) dint (atI_nat (j := 2) rfl)) (dI (dv rfl (.int _)) (dv rfl (.int _)) hgd)))) (fun _ => dtv (K := K) (dB0 (dix (dv rfl iv9) dint (atI_nat (j := 3) rfl)) dint))))) (by have := tm.1; have := tm.2.1; simp; omega)) (fun e => nomatch e) (fun _ H10 k10 => ?_)
      have iv10 := iv9.kp k10
      refine sretV (K := K) (d := .bool true) (DE.is (deq (dI0 (dI (dv rfl (.int A1)) (dix (dv rfl iv10) dint (atI_nat (j := 2) rfl)) (.inl ⟨by omega, by omega⟩)) (dI (dv rfl (.int B1)) (dix (dv rfl iv10) dint (atI_nat (j := 3) rfl)) (.inl ⟨by omega, by omega⟩))) (dv rfl (.int S)) rfl rfl rfl) (by rw [Int.mul_comm B1]; simp; omega)) rfl fun H11 k11 => k H11 (kk8.trans (k9.trans (k10.trans k11)))

end
end TB
/-! texts -/
namespace TB
open PySem PySem.Spec PyProof.Rows L2
theorem peJoin {X : Cx} {K : PySem.W.Frag} {o e : Expr} {to te : TE} {apos pos : Pos} (hK : X.K = K) (ho : PE X o to) (he : PE X e te) (hs : starEach [e] X.env = [(false, eval e X.env)] := by rfl) (hbase : attributeBase o "join" X.env (eval o X.env) = eval o X.env := by rfl) (hline : (apos.endLine == pos.line) = true := by rfl) :
    PE X (.Call (.Attribute o "join" apos) [e] [] pos) (tM1 (fun x xs H Q => ∃ a p, ∃ ys : List Str, x = .str a ∧ xs = [.ref p] ∧ (SqL K H p (ys.map V.str) ∨ SqT K H p (ys.map V.str)) ∧
      (ys.map (·.length)).sum + ys.length * a.length ≤ 16777216 ∧ Q (.str (Txt.join a ys)) H) to te) := hK ▸ pe_join ho he hs hbase hline
theorem len_app (a b : Str) : (a ++ b).length = a.length + b.length := by
  show (a.cps ++ b.cps).size = a.cps.size + b.cps.size
  simp
theorem ext' {a b : Str} (h : a.cps.toList = b.cps.toList) : a = b := by
  cases a; cases b
  congr 1
  exact Array.toList_inj.mp h
theorem tl_app (a b : Str) : (a ++ b).cps.toList = a.cps.toList ++ b.cps.toList := by
  show (a.cps ++ b.cps).toList = _
  simp
theorem join_le (s : Str) : ∀ ys : List Str, (Str.join s ys).length ≤ (ys.map (·.length)).sum + ys.length * s.length
  | [] => by simp [Str.join]; rfl
  | [x] => by simp [Str.join]
  | x :: z :: r => by
    have := join_le s (z :: r)
    show (x ++ s ++ Str.join s (z :: r)).length ≤ _
    rw [len_app, len_app]
    simp only [List.map_cons, List.sum_cons, List.length_cons] at this ⊢
    rw [Nat.add_mul (r.length + 1) 1]
    omega
/-- the text of a number, of sides, of a pair -/
def nTx (i : Int) : Str := Str.ofString (toString i)
def sTx (l : List Int) : Str := Txt.join "x" (l.map nTx)
def kTx (a b : List Int) : Str := Txt.join " " [sTx a, sTx b]
theorem nTx_len {i : Int} (h0 : 0 < i) (h : i ≤ 1000) : (nTx i).length ≤ 4 := toString_length_le (by omega) (by decide) (by omega)
theorem sum_le {l : List Int} (h : ∀ s ∈ l, 0 < s ∧ s ≤ 1000) : ((l.map nTx).map (·.length)).sum ≤ 4 * l.length := by
  induction l with
  | nil => simp
  | cons i l ih =>
    have h1 := nTx_len (h i (by simp)).1 (h i (by simp)).2
    have h2 := ih fun s hs => h s (by simp [hs])
    simp only [List.map_cons, List.sum_cons, List.length_cons]
    omega
theorem sTx_len {l : List Int} (h : ∀ s ∈ l, 0 < s ∧ s ≤ 1000) (hl : l.length ≤ 4) : (sTx l).length ≤ 20 := by
  unfold sTx
  rw [TL.join_eq]
  have h1 := join_le "x" (l.map nTx)
  have h2 := sum_le h
  have h3 : ("x" : Str).length = 1 := by decide +kernel
  rw [h3] at h1
  simp only [List.length_map] at h1
  omega
theorem kTx_len {a b : List Int} (ha : (sTx a).length ≤ 20) (hb : (sTx b).length ≤ 20) : (kTx a b).length ≤ 42 := by
  unfold kTx
  rw [TL.join_eq]
  have h1 := join_le " " [sTx a, sTx b]
  have h3 : (" " : Str).length = 1 := by decide +kernel
  rw [h3] at h1
  simp at h1
  omega
section
variable {K : PySem.W.Frag} {σ : L2.St} {H : Hp} {ta tb : TE} {ds es : List PyData}
theorem dstrI {i : Int} (ha : DE K ta σ H (.int i)) (hz : i.natAbs.log2 < 1920) : DE K (tCB (fun xs H Q => ∃ i, xs = [.int i] ∧ i.natAbs.log2 < 1920 ∧ Q (.str (toString i)) H) (tCons ta tNil)) σ H (.str (nTx i)) := fun H1 k Q q =>
  ha H1 k _ fun v H2 k2 h2 => by
    obtain rfl := h2.intI
    exact ⟨i, rfl, hz, q _ H2 k2 (.str _)⟩
theorem ImAll.strs {H : Hp} : ∀ {vs : List V} (l : List Str), ImAll K H vs (l.map PyData.str) → vs = l.map V.str
  | _, [], .nil => rfl
  | _, _ :: l, .cons (.str _) r => congrArg (V.str _ :: ·) (ImAll.strs l r)
theorem djoin {a : Str} {ys : List Str} (ha : DE K ta σ H (.str a)) (hb : DL K tb σ H (ys.map .str)) (hz : (ys.map (·.length)).sum + ys.length * a.length ≤ 16777216) : DE K (tM1 (fun x xs H Q => ∃ a p, ∃ ys : List Str, x = .str a ∧ xs = [.ref p] ∧ (SqL K H p (ys.map V.str) ∨ SqT K H p (ys.map V.str)) ∧
      (ys.map (·.length)).sum + ys.length * a.length ≤ 16777216 ∧ Q (.str (Txt.join a ys)) H) ta tb) σ H (.str (Txt.join a ys)) := fun H1 k Q q =>
  ha H1 k _ fun v H2 k2 h2 => ⟨⟨a, h2.strI⟩, hb H2 (k.trans k2) _ fun p H3 xs k3 np hp hx => by
    obtain rfl := h2.strI
    obtain rfl := ImAll.strs ys hx
    exact ⟨a, p, ys, rfl, rfl, .inl (.of hp), hz, q _ H3 (k2.trans k3) (.str _)⟩⟩
theorem dcatS {a b : Str} (ha : DE K ta σ H (.str a)) (hb : DE K tb σ H (.str b)) (hz : a.length + b.length ≤ 100000) : DE K (tOp (fun x y H Q => ∃ i j, x = .str i ∧ y = .str j ∧ i.length + j.length ≤ sizeLine ∧ Q (.str (i ++ j)) H) ta tb) σ H (.str (a ++ b)) := fun H1 k Q q =>
  ha H1 k _ fun v H2 k2 h2 => hb H2 (k.trans k2) _ fun w H3 k3 h3 => by
    obtain rfl := h2.strI
    obtain rfl := h3.strI
    exact ⟨a, b, rfl, rfl, Evl.sz_of hz, q _ H3 (k2.trans k3) (.str _)⟩
end
end TB
namespace TB
open PySem PySem.Spec PyProof.Rows L2
section
variable {P : Program} {w : World} {K : PySem.W.Frag} {mg : Str → Option Value} {base : Heap}

theorem log_small {i : Int} (h0 : 0 < i) (h : i ≤ 1000) : i.natAbs.log2 < 1920 := by
  have h1 : i.natAbs < 2 ^ 10 := by omega
  have h2 := (Nat.log2_lt (by omega)).mpr h1
  omega
theorem gv_map {α : Type} (l : List α) (d : α) (f : α → PyData) : gv (l.map f).length (fun _ => true) (fun i => f (l.getD i d)) = l.map f := by
  rw [gv_all]
  apply List.ext_getElem?
  intro n
  simp only [List.length_map, List.getElem?_map]
  by_cases hn : n < l.length
  · simp [List.getElem?_range hn, hn]
  · simp [Nat.not_lt.mp hn]
theorem gv_map2 {α : Type} (l : List α) (d : α) (f g : α → PyData) : gv (l.map f).length (fun _ => true) (fun i => g (l.getD i d)) = l.map g := by
  have := gv_map l d g
  rw [List.length_map] at this ⊢
  exact this
theorem getD_of' {α : Type} {x : List α} {i : Nat} {s z : α} (h : x[i]? = some s) : x.getD i z = s := by rw [List.getD_eq_getElem?_getD, h]; rfl

abbrev nl_sides_text : List Str := ["sides", "side"]
theorem sc_sides_text : FnScope nl_sides_text ["sides"] (defScope s_sides_text) := ⟨rfl, rfl, rfl, by decide +kernel, rfl, by decide +kernel, by decide +kernel⟩
def sp_sides_text (K : PySem.W.Frag) : Sp := fun vs H Q _ => ∃ (vx : V) (x : List Int), vs = [vx] ∧ Im K H vx (tI x) ∧ (∀ s ∈ x, 0 < s ∧ s ≤ 1000) ∧ x.length ≤ 4 ∧ RetV H Q (.str (sTx x))
theorem ok_sides_text (T : Txt K mg) : FnOk P w K mg base CX0 1 (He.ga K "sides_text") (fdA K (He.ga K "sides_text")) ["sides"] (sp_sides_text K) := by
  refine T.f_sides_text.ok sc_sides_text (fun vs H Q E h => ?_) (fun cdv A outer s H vs Q E hr h => ?_)
  · obtain ⟨vx, x, rfl, ix, hx, hl, k⟩ := h
    rfl
  · have nd := sc_sides_text.nd
    have hu := hr.units
    obtain ⟨vx, x, rfl, ix, hx, hl, k⟩ := h
    refine ⟨_, PSs.nox (pss_one (ps_ret (peJoin (K := K) rfl pe_str (pe_lc (own := [("side", 1)]) rfl nd (piT (K := K) rfl (pv 0)) (blkOk_by (N := nl_sides_text) (sc := defScope s_sides_text) (by decide +kernel)) (fun _ _ _ _ _ => (pg_name (i := 1) nd rfl (Or.inl rfl))) (fun _ _ _ _ _ => pts_nil) (fun _ _ _ _ _ => (pe_callTy call_str_int (by rfl) T.n_str (by decide +kernel) (pa_cons (pv 1) pa_nil))))))), ?_⟩
    refine sretV (K := K) (d := .str (sTx x)) (djoin (ys := x.map nTx) dstr (DL.is (dlcT (K := K) (ds := x.map .int) (fun _ => true) (fun i => .str (nTx (x.getD i 0))) (dv rfl ix) (by simp; omega) (fun _ => rfl) (fun i y d H1 k1 hd hy => dyes) (fun i y d H1 k1 hd hy _ => ?_)) ?_) ?_) rfl k
    · obtain ⟨s1, hs, rfl⟩ := getMap hd
      rw [getD_of hs]
      have h1 := hx s1 (List.mem_of_getElem? hs)
      exact dstrI (dv rfl hy) (log_small h1.1 h1.2)
    · rw [gv_map2 x 0 .int (fun i => .str (nTx i)), List.map_map]; rfl
    · have h2 := sum_le hx
      have h3 : ("x" : Str).length = 1 := by decide +kernel
      rw [h3]; simp only [List.length_map]; omega

abbrev nl_law_sides_text : List Str := ["_law_sides_here", "_law_side"]
theorem sc_law_sides_text : FnScope nl_law_sides_text ["_law_sides_here"] (defScope s_law_sides_text) := ⟨rfl, rfl, rfl, by decide +kernel, rfl, by decide +kernel, by decide +kernel⟩
def sp_law_sides_text (K : PySem.W.Frag) : Sp := fun vs H Q _ => ∃ (vx : V) (x : List Int), vs = [vx] ∧ Im K H vx (tI x) ∧ (∀ s ∈ x, 0 < s ∧ s ≤ 1000) ∧ x.length ≤ 4 ∧ RetV H Q (.str (sTx x))
theorem ok_law_sides_text (T : Txt K mg) : FnOk P w K mg base CX0 1 (He.ga K "_law_sides_text") (fdA K (He.ga K "_law_sides_text")) ["_law_sides_here"] (sp_law_sides_text K) := by
  refine T.f_law_sides_text.ok sc_law_sides_text (fun vs H Q E h => ?_) (fun cdv A outer s H vs Q E hr h => ?_)
  · obtain ⟨vx, x, rfl, ix, hx, hl, k⟩ := h
    rfl
  · have nd := sc_law_sides_text.nd
    have hu := hr.units
    obtain ⟨vx, x, rfl, ix, hx, hl, k⟩ := h
    refine ⟨_, PSs.nox (pss_one (ps_ret (peJoin (K := K) rfl pe_str (pe_lc (own := [("_law_side", 1)]) rfl nd (piT (K := K) rfl (pv 0)) (blkOk_by (N := nl_law_sides_text) (sc := defScope s_law_sides_text) (by decide +kernel)) (fun _ _ _ _ _ => (pg_name (i := 1) nd rfl (Or.inl rfl))) (fun _ _ _ _ _ => pts_nil) (fun _ _ _ _ _ => (pe_callTy call_str_int (by rfl) T.n_str (by decide +kernel) (pa_cons (pv 1) pa_nil))))))), ?_⟩
    refine sretV (K := K) (d := .str (sTx x)) (djoin (ys := x.map nTx) dstr (DL.is (dlcT (K := K) (ds := x.map .int) (fun _ => true) (fun i => .str (nTx (x.getD i 0))) (dv rfl ix) (by simp; omega) (fun _ => rfl) (fun i y d H1 k1 hd hy => dyes) (fun i y d H1 k1 hd hy _ => ?_)) ?_) ?_) rfl k
    · obtain ⟨s1, hs, rfl⟩ := getMap hd
      rw [getD_of hs]
      have h1 := hx s1 (List.mem_of_getElem? hs)
      exact dstrI (dv rfl hy) (log_small h1.1 h1.2)
    · rw [gv_map2 x 0 .int (fun i => .str (nTx i)), List.map_map]; rfl
    · have h2 := sum_le hx
      have h3 : ("x" : Str).length = 1 := by decide +kernel
      rw [h3]; simp only [List.length_map]; omega

abbrev nl_kinds_text : List Str := ["kinds", "sides"]
theorem sc_kinds_text : FnScope nl_kinds_text ["kinds"] (defScope s_kinds_text) := ⟨rfl, rfl, rfl, by decide +kernel, rfl, by decide +kernel, by decide +kernel⟩
def sp_kinds_text (K : PySem.W.Frag) : Sp := fun vs H Q _ => ∃ (vp : V) (a b : List Int), vs = [vp] ∧ Im K H vp (pairD (a, b)) ∧ (∀ s ∈ a, 0 < s ∧ s ≤ 1000) ∧ a.length ≤ 4 ∧ (∀ s ∈ b, 0 < s ∧ s ≤ 1000) ∧ b.length ≤ 4 ∧ RetV H Q (.str (kTx a b))
theorem ok_kinds_text (T : Txt K mg) : FnOk P w K mg base CX0 2 (He.ga K "kinds_text") (fdA K (He.ga K "kinds_text")) ["kinds"] (sp_kinds_text K) := by
  refine T.f_kinds_text.ok sc_kinds_text (fun vs H Q E h => ?_) (fun cdv A outer s H vs Q E hr h => ?_)
  · obtain ⟨vp, a, b, rfl, ip, ha, la, hb, lb, k⟩ := h
    rfl
  · have nd := sc_kinds_text.nd
    have hu := hr.units
    obtain ⟨vp, a, b, rfl, ip, ha, la, hb, lb, k⟩ := h
    refine ⟨_, PSs.nox (pss_one (ps_ret (peJoin (K := K) rfl pe_str (pe_lc (own := [("sides", 1)]) rfl nd (piT (K := K) rfl (pv 0)) (blkOk_by (N := nl_kinds_text) (sc := defScope s_kinds_text) (by decide +kernel)) (fun _ _ _ _ _ => (pg_name (i := 1) nd rfl (Or.inl rfl))) (fun _ _ _ _ _ => pts_nil) (fun _ _ _ _ _ => (pe_call (ok_sides_text T) (hr.mono (by decide)) (by rfl) T.g_sides_text (T.f_sides_text.kp) (T.b_sides_text) .nil pass0 (pa_cons (pv 1) pa_nil))))))), ?_⟩
    have hall : ∀ (i : Nat) (d : PyData), ([a, b].map tI)[i]? = some d → ∃ c, [a, b][i]? = some c ∧ d = tI c ∧ (∀ s ∈ c, 0 < s ∧ s ≤ 1000) ∧ c.length ≤ 4 := by
      intro i d hd
      obtain ⟨c, hc, rfl⟩ := getMap hd
      refine ⟨c, hc, rfl, ?_⟩
      have hm : c = a ∨ c = b := by simpa using List.mem_of_getElem? hc
      rcases hm with rfl | rfl
      · exact ⟨ha, la⟩
      · exact ⟨hb, lb⟩
    refine sretV (K := K) (d := .str (kTx a b)) (djoin (ys := [sTx a, sTx b]) dstr (DL.is (dlcT (K := K) (ds := [a, b].map tI) (fun _ => true) (fun i => .str (sTx ([a, b].getD i []))) (dv rfl ip) (by simp) (fun _ => rfl) (fun i y d H1 k1 hd hy => dyes) (fun i y d H1 k1 hd hy _ => ?_)) ?_) ?_) rfl k
    · obtain ⟨c, hc, rfl, h1, h2⟩ := hall i d hd
      rw [getD_of' hc]
      refine dcall (ds := [tI c]) (dacons (dv rfl hy) danil) fun vs H2 k2 hv Q2 q2 => ?_
      obtain ⟨v, rfl, i1⟩ := hv.inv1
      exact ⟨v, c, rfl, i1, h1, h2, fun H3 k3 => q2 _ H3 k3 (.str _)⟩
    · rw [gv_map2 [a, b] [] tI (fun c => .str (sTx c))]; rfl
    · have h3 : (" " : Str).length = 1 := by decide +kernel
      have h1 := sTx_len ha la
      have h2 := sTx_len hb lb
      rw [h3]; simp; omega

abbrev nl_law_kinds_text : List Str := ["_law_kinds", "_law_sides_here"]
theorem sc_law_kinds_text : FnScope nl_law_kinds_text ["_law_kinds"] (defScope s_law_kinds_text) := ⟨rfl, rfl, rfl, by decide +kernel, rfl, by decide +kernel, by decide +kernel⟩
def sp_law_kinds_text (K : PySem.W.Frag) : Sp := fun vs H Q _ => ∃ (vp : V) (a b : List Int), vs = [vp] ∧ Im K H vp (pairD (a, b)) ∧ (∀ s ∈ a, 0 < s ∧ s ≤ 1000) ∧ a.length ≤ 4 ∧ (∀ s ∈ b, 0 < s ∧ s ≤ 1000) ∧ b.length ≤ 4 ∧ RetV H Q (.str (kTx a b))
theorem ok_law_kinds_text (T : Txt K mg) : FnOk P w K mg base CX0 2 (He.ga K "_law_kinds_text") (fdA K (He.ga K "_law_kinds_text")) ["_law_kinds"] (sp_law_kinds_text K) := by
  refine T.f_law_kinds_text.ok sc_law_kinds_text (fun vs H Q E h => ?_) (fun cdv A outer s H vs Q E hr h => ?_)
  · obtain ⟨vp, a, b, rfl, ip, ha, la, hb, lb, k⟩ := h
    rfl
  · have nd := sc_law_kinds_text.nd
    have hu := hr.units
    obtain ⟨vp, a, b, rfl, ip, ha, la, hb, lb, k⟩ := h
    refine ⟨_, PSs.nox (pss_one (ps_ret (peJoin (K := K) rfl pe_str (pe_lc (own := [("_law_sides_here", 1)]) rfl nd (piT (K := K) rfl (pv 0)) (blkOk_by (N := nl_law_kinds_text) (sc := defScope s_law_kinds_text) (by decide +kernel)) (fun _ _ _ _ _ => (pg_name (i := 1) nd rfl (Or.inl rfl))) (fun _ _ _ _ _ => pts_nil) (fun _ _ _ _ _ => (pe_call (ok_law_sides_text T) (hr.mono (by decide)) (by rfl) T.g_law_sides_text (T.f_law_sides_text.kp) (T.b_law_sides_text) .nil pass0 (pa_cons (pv 1) pa_nil))))))), ?_⟩
    have hall : ∀ (i : Nat) (d : PyData), ([a, b].map tI)[i]? = some d → ∃ c, [a, b][i]? = some c ∧ d = tI c ∧ (∀ s ∈ c, 0 < s ∧ s ≤ 1000) ∧ c.length ≤ 4 := by
      intro i d hd
      obtain ⟨c, hc, rfl⟩ := getMap hd
      refine ⟨c, hc, rfl, ?_⟩
      have hm : c = a ∨ c = b := by simpa using List.mem_of_getElem? hc
      rcases hm with rfl | rfl
      · exact ⟨ha, la⟩
      · exact ⟨hb, lb⟩
    refine sretV (K := K) (d := .str (kTx a b)) (djoin (ys := [sTx a, sTx b]) dstr (DL.is (dlcT (K := K) (ds := [a, b].map tI) (fun _ => true) (fun i => .str (sTx ([a, b].getD i []))) (dv rfl ip) (by simp) (fun _ => rfl) (fun i y d H1 k1 hd hy => dyes) (fun i y d H1 k1 hd hy _ => ?_)) ?_) ?_) rfl k
    · obtain ⟨c, hc, rfl, h1, h2⟩ := hall i d hd
      rw [getD_of' hc]
      refine dcall (ds := [tI c]) (dacons (dv rfl hy) danil) fun vs H2 k2 hv Q2 q2 => ?_
      obtain ⟨v, rfl, i1⟩ := hv.inv1
      exact ⟨v, c, rfl, i1, h1, h2, fun H3 k3 => q2 _ H3 k3 (.str _)⟩
    · rw [gv_map2 [a, b] [] tI (fun c => .str (sTx c))]; rfl
    · have h3 : (" " : Str).length = 1 := by decide +kernel
      have h1 := sTx_len ha la
      have h2 := sTx_len hb lb
      rw [h3]; simp; omega

end
end TB
/-! len(set(a tuple of ints)), sorted(a tuple of ints), all(a list of bools) -/
namespace PyProof.Rows
open PySem
section
variable {pr0 : Program} {wd : World} {A : Around} {E : Value → Shared → Prop} {s : Shared}
/-- sorted of a tuple of ints: the library collects a tuple (wpAny_collect_seq) and sorts a new list (list_sort_tree), which lies at the end of some heap h1 behind the collecting -/
theorem sortTup {ad : Addr} {wv : List Value} {ns : List Int} {Q : Value → Shared → Prop} (tup : s.heap.IsTuple ad wv.toArray) (num : IntsAre wv ns) (few : wv.length < 64)
    (goal : ∀ (h1 h2 : Heap) (res : List Value) (ms : List Int) (e : Nat), IntsAre res ms → ms.Perm ns → ms.Pairwise (· ≤ ·) → (∀ b o, s.heap.get? b = some o → h1.get? b = some o) → (∀ b o, h1.get? b = some o → h2.get? b = some o) → h2.get? h1.objs.size = some (seqObj "list" res.toArray e) → Q (.ref h1.objs.size) { s with heap := h2 }) :
    wpAny (model pr0 wd) A (call (.builtin "sorted") [.ref ad]) Q E s := by
  obtain ⟨ot, gt, ct, nt, dt⟩ := tup
  refine Calls.call_function_entry kind_sorted plain_sorted entry_sorted (args_sorted1 (.ref ad)) ?_
  delta Builtin.«sorted»
  refine wpAny_bind (m := checkCount "sorted" 1 1 _) (wpAny_pure (wpAny_bind (wpAny_collect_seq ad (.inr rfl) gt ct dt (fun h1 k1 => wpAny_bind (wpAny_newList ?_)) ?_)))
  · have at_ : (h1.push (seqObj "list" wv.toArray 0)).get? h1.objs.size = some (seqObj "list" wv.toArray 0) := Heap.get?_push_size _ rfl
    refine wpAny_bind (wpAny_holding (wpAny_call_entry slot_list_sort ⟨_, at_, rfl⟩ entry_list_sort (list_sort_tree at_ num few fun res ms a1 a2 a3 => ⟨_, rfl, wpAny_pure ⟨_, rfl, ?_⟩⟩) (args_list_sort _)))
    obtain ⟨e, ge⟩ := sortedHeap_at (vs := wv) (out := res) at_
    refine goal h1 _ res.toList ms e a1 a2 a3 k1 (fun b o z => ?_) (by simpa using ge)
    have lt := Heap.lt_size z
    exact (sortedHeap_old (Nat.ne_of_lt lt) (Nat.lt_of_lt_of_le lt (by rw [Heap.size_push]; exact Nat.le_succ _))).trans (Heap.get?_push_of_some _ z)
  · rw [List.size_toArray, sizeLine_eq]; omega
end
end PyProof.Rows
namespace TB
open PySem PySem.Spec PyProof.Rows L2
def rSortT (K : PySem.W.Frag) : List V → Hp → VK → Prop := fun vs H Q => ∃ (a : Addr) (ns : List Int), vs = [V.ref a] ∧ SqT K H a (ns.map V.int) ∧ ns.length < 64 ∧ ∀ (ns' : List Int) (p : Addr), ns'.Perm ns → ns'.Pairwise (· ≤ ·) → H p = none → Q (.ref p) (upd H p (.lst (ns'.map V.int)))
theorem clSortT {X : Cx} {K : PySem.W.Frag} (hK : X.K = K) : CallR X (.builtin "sorted") (rSortT K) := by
  subst hK
  intro pz s τ H vs uz Q Nv rel wish
  obtain ⟨a, ns, rfl, sq, few, q⟩ := wish
  obtain ⟨its, rv, tup, _⟩ := Nv.tuple sq
  obtain rfl := Vals.ref1 rel
  refine sortTup tup rv.ints (rv.ints.length.symm ▸ few) fun h1 h2 res ms e a1 a2 a3 k1 k2 ge => ?_
  have no : H h1.objs.size = none := (Nv.hok.kept k1).fresh (Nat.le_refl _)
  have new : s.heap.get? h1.objs.size = none := Option.eq_none_iff_forall_ne_some.mpr fun o z => Nat.lt_irrefl _ (Heap.lt_size (k1 _ o z))
  have small : (ms.map V.int).length ≤ sizeLine := by rw [List.length_map, a2.length_eq]; exact small64 few
  exact ⟨.ref h1.objs.size, upd H h1.objs.size (.lst (ms.map V.int)), Nv.laidN (t' := s.toks) (fun b o z => k2 b o (k1 b o z)) new no ⟨small, res, e, vals_of_ints a1, ge⟩, rfl, q ms _ a2 a3 no⟩
def tLenSetT (K : PySem.W.Frag) (ta : TE) : TE := fun τ H Q => ta τ H fun x H1 => ∃ (ad : Addr) (ns : List Int), x = .ref ad ∧ SqT K H1 ad (ns.map V.int) ∧ ns.Nodup ∧ ns.length ≤ 4000 ∧ Q (.int (ns.length : Nat)) H1
theorem peLenSetT {X : Cx} {K : PySem.W.Frag} {a : Expr} {ta : TE} {p p2 q pos : Pos} (hK : X.K = K) (hg : Gl X "len") (hm : X.mg "len" = none) (hg2 : Gl X "set") (hm2 : X.mg "set" = none) (ha : PE X a ta) (cL : X.calm = true := by rfl)
    (na : starEach [a] X.env = (false, eval a X.env) :: starEach [] X.env := by rfl) : PE X (.Call (.Name "len" p) [.Call (.Name "set" p2) [a] [] q] [] pos) (tLenSetT K ta) := by
  subst hK
  refine ⟨fun pz s τ H Q Nv h => ?_⟩
  refine Call_ (ld_blt Nv hg hm boot_len ?_)
  refine PyProof.Rows.callWith_builtin1 (PyProof.Rows.args_cons ?_ rfl) rfl rfl
  refine Call_ (ld_blt Nv hg2 hm2 boot_set ?_)
  refine PyProof.Rows.callWith_type1 (PyProof.Rows.args_cons (thn (ha.run pz s τ H _ Nv h) fun v sA ⟨x, H1, Nv1, rr1, y1⟩ => PyProof.Rows.args_nil ?_) na) na rfl
  obtain ⟨ad, ns, rfl, eQ, nd0, atL, y1⟩ := y1
  cases rr1
  obtain ⟨its, r, pl, hz⟩ := Nv1.tuple eQ
  refine call_set_tupI ns (Nv1.ok.hd cL) pl r.ints (by unfold scanBound; omega) fun h' tk c hS hcl hk => ?_
  refine PyProof.Rows.args_nil ?_
  obtain ⟨o, es, epo, t, gL, hex, dL, hgo, hkn, hmem, hb, hf, hn, _⟩ := hS
  have hn2 : es.size = ns.length := by
    have pm : (es.toList.map keyOf).Perm ns := (List.perm_ext_iff_of_nodup hkn nd0).mpr fun k => by rw [← hmem k]; simp
    have := pm.length_eq
    simpa using this
  have Nv2 : Inv X pz τ H1 { sA with heap := h', toks := tk } := Nv1.kept fun b o e => hk b o e
  exact call_len_set gL hex dL hf (by rw [hn2] <;> omega) ⟨.int ns.length, H1, Nv2.tok _, ⟨_, by rw [hn2]⟩, y1⟩
theorem clAll {X : Cx} {K : PySem.W.Frag} (hK : X.K = K) (cL : X.calm = true) : CallR X (.builtin "all") (rAll K) := hK ▸ cr_all cL
section
variable {K : PySem.W.Frag} {τ : L2.St} {H : Hp} {ta tb : TE} {ds es : List PyData}
theorem ImAll.bools {H : Hp} : ∀ {vs : List V} (ad : List Bool), ImAll K H vs (ad.map PyData.bool) → vs = ad.map V.bl
  | _, [], .nil => rfl
  | _, _ :: ad, .cons (.bl _) r => congrArg (V.bl _ :: ·) (ImAll.bools ad r)
theorem dall {bs : List Bool} (ha : DL K ta τ H (bs.map .bool)) : DE K (tCB (rAll K) (tCons ta tNil)) τ H (.bool (bs.all id)) := fun H1 k Q q =>
  ha H1 k _ fun p H2 xs k2 np hp hx => by
    obtain rfl := ImAll.bools bs hx
    exact ⟨p, bs, rfl, .of hp, q _ H2 k2 (.bl _)⟩
theorem dlenSet {ns : List Int} (ha : DE K ta τ H (tI ns)) (hn : ns.Nodup) (atL : ns.length ≤ 4000) : DE K (tLenSetT K ta) τ H (.int (ns.length : Nat)) := fun H1 k Q q =>
  ha H1 k _ fun v H2 k2 hv => by
    obtain ⟨a, rfl, h⟩ := hv.ti
    exact ⟨a, ns, rfl, h, hn, atL, q _ H2 k2 (.int _)⟩
theorem dsortT {ns : List Int} (ha : DE K ta τ H (tI ns)) (atL : ns.length < 64) (eS : ∀ ns' : List Int, ns'.Perm ns → ns'.Pairwise (· ≤ ·) → ns'.map PyData.int = es) : DL K (tCB (rSortT K) (tCons ta tNil)) τ H es := fun H1 k Q q =>
  ha H1 k _ fun v H2 k2 hv => by
    obtain ⟨a, rfl, h⟩ := hv.ti
    refine ⟨a, ns, rfl, h, atL, fun ns' p h1 h2 np => ?_⟩
    have e := eS ns' h1 h2
    subst e
    exact q p _ _ (k2.trans (.new np)) (k2.free np) upd_same (ImAll.ints _)
/-! loops over tuples -/
variable {tu tz : TS} {D : Ends}
theorem qforE {i0 j1 j2 : Nat} {v0 : V} (hv : τ[i0]? = some (some v0)) (hi0 : Im K H v0 (.tuple ds)) (Pv : Nat → L2.St → Hp → Prop) (h0 : Pv 0 τ H) (hm : ∀ i σ' H' H2, Pv i σ' H' → Kp [] H' H2 → Pv i σ' H2) (hK : ∀ i σ' H', Pv i σ' H' → ∃ ad, Kp ad H H')
    (eS : ∀ i (x : V) d σ' H', i < ds.length → ds[i]? = some d → Im K H' x d → Pv i σ' H' → tu { D with nx := Pv (i + 1), ct := Pv (i + 1), bk := tz D } ((σ'.set j1 (some (.int (i : Nat)))).set j2 (some x)) H') (dL : ∀ σ' H', Pv ds.length σ' H' → tz D σ' H') :
    tSeq (tFor (iEnT K (tCons (tVar i0) tNil)) (gTup K 2 (gCons (gName j1) (gCons (gName j2) gNil))) tu) tz D τ H := by
  obtain ⟨a, xs, rfl, hx, hxs⟩ := hi0.tupI
  have lenR := hxs.len
  refine ⟨_, hv, a, xs, rfl, hx, ?_⟩
  refine for_it (walk_enT (xs := xs)) Pv h0 (fun i σ' H' _ p => by obtain ⟨ad, k⟩ := hK i σ' H' p; exact k.sqT hx) (fun i x σ' H' H2 hi p y => ?_) (fun σ' H' p => dL σ' H' (lenR ▸ p))
  obtain ⟨T, x1, x2, rfl, hT, rfl, e1', e2'⟩ := y
  cases e1'
  have kT : Kp [] H' (upd H' T (.tup [.int (i : Nat), x2])) := .new hT
  refine ⟨T, [.int (i : Nat), x2], rfl, .of upd_same, rfl, _, _, rfl, _, _, rfl, rfl, ?_⟩
  obtain ⟨ad, k⟩ := hK i σ' H' p
  obtain ⟨d, hd', hxd⟩ := ((hxs.kp k).kp kT).getV e2'
  exact eS i x2 d σ' _ (by omega) hd' hxd (hm i σ' H' _ p kT)
end
end TB
namespace TB
open PySem PySem.Spec PyProof.Rows L2
section
variable {P : Program} {w : World} {K : PySem.W.Frag} {mg : Str → Option Value} {base : Heap}

theorem dIsInt {E : XK} {σ : L2.St} {H : Hp} {ta tb tc : TE} {v lo hi : Int} (ha : DE K ta σ H (.int v)) (hb : DE K tb σ H (.int lo)) (hc : DE K tc σ H (.int hi)) : DE K (tCall sp_is_integer [] E (tCons ta (tCons tb (tCons tc tNil)))) σ H (.bool (decide (lo ≤ v ∧ v ≤ hi))) :=
  dcall (dacons ha (dacons hb (dacons hc danil))) fun vs H1 k1 hv Q q => by
    obtain ⟨v1, v2, v3, rfl, i1, i2, i3⟩ := hv.inv3
    obtain rfl := i1.intI
    obtain rfl := i2.intI
    obtain rfl := i3.intI
    exact ⟨v, lo, hi, rfl, fun H2 k2 => q _ H2 k2 (.bl _)⟩

abbrev nl_sides_error : List Str := ["value", "axis", "side"]
theorem sc_sides_error : FnScope nl_sides_error ["value"] (defScope s_sides_error) := ⟨rfl, rfl, rfl, by decide +kernel, rfl, by decide +kernel, by decide +kernel⟩
def sp_sides_error (K : PySem.W.Frag) : Sp := fun vs H Q _ => ∃ (vx : V) (x : List Int), vs = [vx] ∧ Im K H vx (tI x) ∧ (∀ s ∈ x, 0 < s ∧ s ≤ 1000) ∧ 1 ≤ x.length ∧ x.length ≤ 4 ∧ RetV H Q .non
theorem ok_sides_error (T : Txt K mg) : FnOk P w K mg base CX0 2 (He.ga K "sides_error") (fdA K (He.ga K "sides_error")) ["value"] (sp_sides_error K) := by
  refine T.f_sides_error.ok sc_sides_error (fun vs H Q E h => ?_) (fun cdv A outer s H vs Q E hr h => ?_)
  · obtain ⟨vx, x, rfl, ix, hx, h1, h4, k⟩ := h
    rfl
  · have nd := sc_sides_error.nd
    have hu := hr.units
    obtain ⟨vx, x, rfl, ix, hx, h1, h4, k⟩ := h
    refine ⟨_, PSs.nox (pss_cons (ps_if (PW.pt (pw_or (pt_not (pt_val (pe_callB (clIsi (K := K) rfl) (by rfl) T.n_isinstance (by decide +kernel) (pa_cons (pv 0) (pa_cons (pe_bltn (v := .ty "tuple") (by rfl) T.n_tuple (by decide +kernel) rfl) pa_nil))))) (pw_or1 (pt_not (pt_chain op_le op_le pe_int (pe_callB (clLen (K := K) rfl) (by rfl) T.n_len (by decide +kernel) (pa_cons (pv 0) pa_nil)) (pe_glob (v := .int 4) rfl T.c_MAX_DIMS.choose_spec ⟨_, rfl⟩)))))) (pss_one (ps_ret (pe_tup (pa_cons pe_non (pa_cons pe_str pa_nil))))) pss_nil)
      (pss_cons (ps_for PassesOwn.never rfl (piE (K := K) rfl (by rfl) T.n_enumerate (pa_cons (pv 0) pa_nil)) (pgT (K := K) (n := 2) rfl rfl (pgs_cons (pg_name (i := 1) nd rfl (Or.inl rfl)) (pgs_cons (pg_name (i := 2) nd rfl (Or.inl rfl)) pgs_nil))) (pss_one (ps_if (pt_not (pt_val (pe_call (ok_is_integer T) (hr.mono (by decide)) (by rfl) T.g_is_integer (T.f_is_integer.kp) (T.b_is_integer) .nil pass0 (pa_cons (pv 2) (pa_cons pe_int (pa_cons (pe_glob (v := .int 1000000000000) rfl T.c_MAX_SIDE.choose_spec ⟨_, rfl⟩) pa_nil)))))) (pss_one (ps_ret (pe_tup (pa_cons (pv 1) (pa_cons pe_str pa_nil))))) pss_nil)))
      (pss_one (ps_ret pe_non)))), ?_⟩
    refine qif (b := false) (DT.is (dtor (dtnot (dtB (K := K) (disi (T := "tuple") (b := true) (dv rfl ix) (by show kitB "tuple" "tuple" = some true; decide +kernel)))) (fun _ => dtnot (dtv (K := K) (dch dint (dlen (ds := x.map .int) (dv rfl ix)) dint)))) (by simp; omega)) (fun e => nomatch e) (fun _ H1 k1 => ?_)
    refine qforE (ds := x.map .int) rfl (ix.kp k1) (fun i σ' H' => ∃ y z : Option V, σ' = [some vx, y, z] ∧ Kp [] H1 H') ⟨none, none, rfl, .refl⟩ (fun i σ' H' H2 ⟨y, z, e, k⟩ k2 => ⟨y, z, e, k.trans k2⟩) (fun i σ' H' ⟨y, z, e, k⟩ => ⟨_, k⟩) (fun i v d σ' H' hi hd hv ⟨y, z, e, k2⟩ => ?_) (fun σ' H' ⟨y, z, e, k2⟩ => ?_)
    · subst e
      obtain ⟨s1, hs, rfl⟩ := getMap hd
      have hs' := hx s1 (List.mem_of_getElem? hs)
      exact sif (b := false) (DT.is (dtnot (dtB (K := K) (dIsInt (dv rfl hv) dint dint))) (by simp; omega)) (fun e => nomatch e) (fun _ H3 k3 => ⟨_, _, rfl, k2.trans k3⟩)
    · subst e
      exact k H' (k1.trans k2)


theorem dSidesErr {E : XK} {σ : L2.St} {H : Hp} {ta : TE} {x : List Int} (ha : DE K ta σ H (tI x)) (hx : ∀ s ∈ x, 0 < s ∧ s ≤ 1000) (h1 : 1 ≤ x.length) (h4 : x.length ≤ 4) : DE K (tCall (sp_sides_error K) [] E (tCons ta tNil)) σ H .none :=
  dcall (dacons ha danil) fun vs H1 k1 hv Q q => by
    obtain ⟨v1, rfl, i1⟩ := hv.inv1
    exact ⟨v1, x, rfl, i1, hx, h1, h4, fun H2 k2 => q _ H2 k2 .non⟩

abbrev nl_kinds_error : List Str := ["value", "kind", "sides"]
theorem sc_kinds_error : FnScope nl_kinds_error ["value"] (defScope s_kinds_error) := ⟨rfl, rfl, rfl, by decide +kernel, rfl, by decide +kernel, by decide +kernel⟩
def sp_kinds_error (K : PySem.W.Frag) : Sp := fun vs H Q _ => ∃ (vp : V) (a b x : List Int), vs = [vp] ∧ Im K H vp (pairD (a, b)) ∧ Bx a b x ∧ RetV H Q .non
theorem ok_kinds_error (T : Txt K mg) : FnOk P w K mg base CX0 3 (He.ga K "kinds_error") (fdA K (He.ga K "kinds_error")) ["value"] (sp_kinds_error K) := by
  refine T.f_kinds_error.ok sc_kinds_error (fun vs H Q E h => ?_) (fun cdv A outer s H vs Q E hr h => ?_)
  · obtain ⟨vp, a, b, x, rfl, ip, B, k⟩ := h
    rfl
  · have nd := sc_kinds_error.nd
    have hu := hr.units
    obtain ⟨vp, a, b, x, rfl, ip, B, k⟩ := h
    refine ⟨_, PSs.nox (pss_cons (ps_if (PW.pt (pw_or (pt_not (pt_val (pe_callB (clIsi (K := K) rfl) (by rfl) T.n_isinstance (by decide +kernel) (pa_cons (pv 0) (pa_cons (pe_bltn (v := .ty "tuple") (by rfl) T.n_tuple (by decide +kernel) rfl) pa_nil))))) (pw_or1 (pt_not (pt_chain op_le op_le pe_int (pe_callB (clLen (K := K) rfl) (by rfl) T.n_len (by decide +kernel) (pa_cons (pv 0) pa_nil)) (pe_glob (v := .int 4) rfl T.c_MAX_KINDS.choose_spec ⟨_, rfl⟩)))))) (pss_one (ps_ret (pe_tup (pa_cons pe_non (pa_cons pe_str pa_nil))))) pss_nil)
      (pss_cons (ps_for PassesOwn.never rfl (piE (K := K) rfl (by rfl) T.n_enumerate (pa_cons (pv 0) pa_nil)) (pgT (K := K) (n := 2) rfl rfl (pgs_cons (pg_name (i := 1) nd rfl (Or.inl rfl)) (pgs_cons (pg_name (i := 2) nd rfl (Or.inl rfl)) pgs_nil))) (pss_cons (ps_if (pt_cmpR op_notN (pe_call (ok_sides_error T) (hr.mono (by decide)) (by rfl) T.g_sides_error (T.f_sides_error.kp) (T.b_sides_error) .nil pass0 (pa_cons (pv 2) pa_nil)) pe_non (nomark _)) (pss_one (ps_ret (pe_tup (pa_cons (pv 1) (pa_cons pe_str pa_nil))))) pss_nil)
      (pss_one (ps_if (pt_cmpR op_ne (pe_callB (clLen (K := K) rfl) (by rfl) T.n_len (by decide +kernel) (pa_cons (pv 2) pa_nil)) (pe_callB (clLen (K := K) rfl) (by rfl) T.n_len (by decide +kernel) (pa_cons (pe_ix (ixT (K := K) rfl) (pv 0) pe_int (fun _ _ => rfl)) pa_nil)) (nomark _)) (pss_one (ps_ret (pe_tup (pa_cons (pv 1) (pa_cons pe_str pa_nil))))) pss_nil))))
      (pss_one (ps_ret pe_non)))), ?_⟩
    have hla := B.la
    have hlb := B.lb
    have hl1 := B.l1
    have hl4 := B.l4
    refine qif (b := false) (DT.is (dtor (dtnot (dtB (K := K) (disi (T := "tuple") (b := true) (dv rfl ip) (by show kitB "tuple" "tuple" = some true; decide +kernel)))) (fun _ => dtnot (dtv (K := K) (dch dint (dlen (dv rfl ip)) dint)))) (by simp)) (fun e => nomatch e) (fun _ H1 k1 => ?_)
    refine qforE (ds := [tI a, tI b]) rfl (ip.kp k1) (fun i σ' H' => ∃ y z : Option V, σ' = [some vp, y, z] ∧ Kp [] H1 H') ⟨none, none, rfl, .refl⟩ (fun i σ' H' H2 ⟨y, z, e, k⟩ k2 => ⟨y, z, e, k.trans k2⟩) (fun i σ' H' ⟨y, z, e, k⟩ => ⟨_, k⟩) (fun i v d σ' H' hi hd hv ⟨y, z, e, k2⟩ => ?_) (fun σ' H' ⟨y, z, e, k2⟩ => ?_)
    · subst e
      have ⟨c, ec, hc, hcl⟩ : ∃ c, d = tI c ∧ (∀ s ∈ c, 0 < s ∧ s ≤ 1000) ∧ c.length = x.length := by
        have hm : d = tI a ∨ d = tI b := by simpa using List.mem_of_getElem? hd
        rcases hm with rfl | rfl
        · exact ⟨a, rfl, B.pa, hla⟩
        · exact ⟨b, rfl, B.pb, hlb⟩
      subst ec
      refine qif (b := false) (DT.is (dtv (K := K) (dnotN (dSidesErr (dv rfl hv) hc (by omega) (by omega)))) rfl) (fun e => nomatch e) (fun _ H3 k3 => ?_)
      refine sif (b := false) (DT.is (dtv (K := K) (dne (dlen (ds := c.map .int) (dv rfl (hv.kp k3))) (dlen (ds := a.map .int) (dix (dv rfl (((ip.kp k1).kp k2).kp k3)) dint at0)) rfl rfl rfl)) (by simp; omega)) (fun e => nomatch e) (fun _ H4 k4 => ⟨_, _, rfl, k2.trans (k3.trans k4)⟩)
    · subst e
      exact k H' (k1.trans k2)

abbrev nl_pair_error : List Str := ["value", "error"]
theorem sc_pair_error : FnScope nl_pair_error ["value"] (defScope s_pair_error) := ⟨rfl, rfl, rfl, by decide +kernel, rfl, by decide +kernel, by decide +kernel⟩
def sp_pair_error (K : PySem.W.Frag) : Sp := fun vs H Q _ => ∃ (vp : V) (a b x : List Int), vs = [vp] ∧ Im K H vp (pairD (a, b)) ∧ Bx a b x ∧ RetV H Q .non
theorem ok_pair_error (T : Txt K mg) : FnOk P w K mg base CX0 4 (He.ga K "pair_error") (fdA K (He.ga K "pair_error")) ["value"] (sp_pair_error K) := by
  refine T.f_pair_error.ok sc_pair_error (fun vs H Q E h => ?_) (fun cdv A outer s H vs Q E hr h => ?_)
  · obtain ⟨vp, a, b, x, rfl, ip, B, k⟩ := h
    rfl
  · have nd := sc_pair_error.nd
    have hu := hr.units
    obtain ⟨vp, a, b, x, rfl, ip, B, k⟩ := h
    refine ⟨_, PSs.nox (pss_cons (ps_set (i := 1) nd rfl (Or.inl rfl) (pe_call (ok_kinds_error T) (hr.mono (by decide)) (by rfl) T.g_kinds_error (T.f_kinds_error.kp) (T.b_kinds_error) .nil pass0 (pa_cons (pv 0) pa_nil)))
      (pss_cons (ps_if (PW.pt (pw_and (pt_cmpR op_isN (pv 1) pe_non (nomark _)) (pw_and1 (pt_cmpR op_ne (pe_callB (clLen (K := K) rfl) (by rfl) T.n_len (by decide +kernel) (pa_cons (pv 0) pa_nil)) pe_int (nomark _))))) (pss_one (ps_ret (pe_tup (pa_cons pe_non (pa_cons pe_str pa_nil))))) pss_nil)
      (pss_one (ps_ret (pv 1))))), ?_⟩
    refine qasg (K := K) (d := .none) (dcall (ds := [pairD (a, b)]) (dacons (dv rfl ip) danil) fun vs H1 k1 hv Q1 q1 => ?_) fun v H1 k1 hv => ?_
    · obtain ⟨v1, rfl, i1⟩ := hv.inv1
      exact ⟨v1, a, b, x, rfl, i1, B, fun H2 k2 => q1 _ H2 k2 .non⟩
    obtain rfl := hv.nonI
    refine qif (b := false) (DT.is (dtand (dtv (K := K) (disN (dv rfl .non))) (fun _ => dtv (K := K) (dne (dlen (dv rfl (ip.kp k1))) dint rfl rfl rfl))) (by simp)) (fun e => nomatch e) (fun _ H2 k2 => ?_)
    exact sretV (K := K) (d := .none) (dv rfl .non) rfl fun H3 k3 => k H3 (k1.trans (k2.trans k3))

abbrev nl_box_error : List Str := ["kinds", "value", "error"]
theorem sc_box_error : FnScope nl_box_error ["kinds", "value"] (defScope s_box_error) := ⟨rfl, rfl, rfl, by decide +kernel, rfl, by decide +kernel, by decide +kernel⟩
def sp_box_error (K : PySem.W.Frag) : Sp := fun vs H Q _ => ∃ (vp vx : V) (a b x : List Int), vs = [vp, vx] ∧ Im K H vp (pairD (a, b)) ∧ Im K H vx (tI x) ∧ Bx a b x ∧ RetV H Q .non
theorem ok_box_error (T : Txt K mg) : FnOk P w K mg base CX0 3 (He.ga K "box_error") (fdA K (He.ga K "box_error")) ["kinds", "value"] (sp_box_error K) := by
  refine T.f_box_error.ok sc_box_error (fun vs H Q E h => ?_) (fun cdv A outer s H vs Q E hr h => ?_)
  · obtain ⟨vp, vx, a, b, x, rfl, ip, ix, B, k⟩ := h
    rfl
  · have nd := sc_box_error.nd
    have hu := hr.units
    obtain ⟨vp, vx, a, b, x, rfl, ip, ix, B, k⟩ := h
    refine ⟨_, PSs.nox (pss_cons (ps_set (i := 2) nd rfl (Or.inl rfl) (pe_call (ok_sides_error T) (hr.mono (by decide)) (by rfl) T.g_sides_error (T.f_sides_error.kp) (T.b_sides_error) .nil pass0 (pa_cons (pv 1) pa_nil)))
      (pss_cons (ps_if (PW.pt (pw_and (pt_cmpR op_isN (pv 2) pe_non (nomark _)) (pw_and1 (pt_cmpR op_ne (pe_callB (clLen (K := K) rfl) (by rfl) T.n_len (by decide +kernel) (pa_cons (pv 1) pa_nil)) (pe_callB (clLen (K := K) rfl) (by rfl) T.n_len (by decide +kernel) (pa_cons (pe_ix (ixT (K := K) rfl) (pv 0) pe_int (fun _ _ => rfl)) pa_nil)) (nomark _))))) (pss_one (ps_ret (pe_tup (pa_cons pe_non (pa_cons pe_str pa_nil))))) pss_nil)
      (pss_one (ps_ret (pv 2))))), ?_⟩
    have hl1 := B.l1
    have hl4 := B.l4
    have hla := B.la
    refine qasg (K := K) (d := .none) (dSidesErr (dv rfl ix) B.px (by omega) (by omega)) fun v H1 k1 hv => ?_
    obtain rfl := hv.nonI
    refine qif (b := false) (DT.is (dtand (dtv (K := K) (disN (dv rfl .non))) (fun _ => dtv (K := K) (dne (dlen (ds := x.map .int) (dv rfl (ix.kp k1))) (dlen (ds := a.map .int) (dix (dv rfl (ip.kp k1)) dint at0)) rfl rfl rfl))) (by simp; omega)) (fun e => nomatch e) (fun _ H2 k2 => ?_)
    exact sretV (K := K) (d := .none) (dv rfl .non) rfl fun H3 k3 => k H3 (k1.trans (k2.trans k3))

abbrev nl_swapped : List Str := ["page", "pair", "box"]
theorem sc_swapped : FnScope nl_swapped ["page"] (defScope s_swapped) := ⟨rfl, rfl, rfl, by decide +kernel, rfl, by decide +kernel, by decide +kernel⟩
def sp_swapped (K : PySem.W.Frag) : Sp := fun vs H Q _ => ∃ (vg : V) (a b x : List Int), vs = [vg] ∧ Im K H vg (pageD ((a, b), x)) ∧ Ret K H Q (pageD ((b, a), x))
theorem ok_swapped (T : Txt K mg) : FnOk P w K mg base CX0 1 (He.ga K "swapped") (fdA K (He.ga K "swapped")) ["page"] (sp_swapped K) := by
  refine T.f_swapped.ok sc_swapped (fun vs H Q E h => ?_) (fun cdv A outer s H vs Q E hr h => ?_)
  · obtain ⟨vg, a, b, x, rfl, ig, k⟩ := h
    rfl
  · have nd := sc_swapped.nd
    have hu := hr.units
    obtain ⟨vg, a, b, x, rfl, ig, k⟩ := h
    refine ⟨_, PSs.nox (pss_cons (ps_asg (pv 0) (pgT (K := K) (n := 2) rfl rfl (pgs_cons (pg_name (i := 1) nd rfl (Or.inl rfl)) (pgs_cons (pg_name (i := 2) nd rfl (Or.inl rfl)) pgs_nil))))
      (pss_one (ps_ret (pe_tup (pa_cons (pe_tup (pa_cons (pe_ix (ixT (K := K) rfl) (pv 1) pe_int (fun _ _ => rfl)) (pa_cons (pe_ix (ixT (K := K) rfl) (pv 1) pe_int (fun _ _ => rfl)) pa_nil))) (pa_cons (pv 2) pa_nil)))))), ?_⟩
    refine q2 (K := K) (x := pairD (a, b)) (y := tI x) (dv rfl ig) fun v w H1 k1 i1 i2 => ?_
    exact sret (K := K) (d := pageD ((b, a), x)) (dtup (dacons (dtup (dacons (dix (dv rfl i1) dint at1) (dacons (dix (dv rfl i1) dint at0) danil))) (dacons (dv rfl i2) danil))) fun v H2 k2 hv => k v H2 (k1.trans k2) hv


theorem Ord.nodup {o : List Int} {n : Nat} (h : Ord o n) : o.Nodup := h.nodup_iff.mpr (List.Pairwise.map _ (fun i j h e => h (Int.ofNat.inj e)) List.nodup_range)
theorem ord_sorted {o l : List Int} {n : Nat} (h : Ord o n) (h1 : l.Perm o) (h2 : l.Pairwise (· ≤ ·)) : l = (List.range n).map fun i => ((i : Nat) : Int) := by
  have p : l.Perm ((List.range n).map fun i => ((i : Nat) : Int)) := h1.trans h
  have s2 : ((List.range n).map fun i => ((i : Nat) : Int)).Pairwise (· ≤ ·) := List.Pairwise.map _ (fun i j (h : i < j) => by show ((i : Nat) : Int) ≤ ((j : Nat) : Int); omega) List.pairwise_lt_range
  exact p.eq_of_pairwise (fun a b _ _ h1 h2 => by omega) h2 s2
theorem range_get (n i : Nat) (h : i < n) : ((List.range n).map fun i => ((i : Nat) : Int))[i]? = some (i : Int) := by simp [List.getElem?_range h]
/-- [sides[axis] for axis in order] -/
theorem pm_gv {o l : List Int} {n : Nat} : gv (o.map PyData.int).length (fun _ => true) (fun i => .int (l.getD (o.getD i 0).toNat 0)) = (pm o l).map PyData.int := by
  have := gv_map2 o 0 PyData.int (fun j => PyData.int (l.getD j.toNat 0))
  rw [this]; unfold pm; rw [List.map_map]; rfl
theorem ord_at {o l : List Int} {n : Nat} {j : Int} (h : Ord o n) (hl : l.length = n) (hj : j ∈ o) : atI (l.map PyData.int) j = some (.int (l.getD j.toNat 0)) := by
  obtain ⟨k, hk, rfl⟩ := h.mem.mp hj
  have h3 : l[k]? = some (l[k]'(by omega)) := get_lt (by omega)
  rw [Int.toNat_natCast, getD_of h3]
  exact atMap .int h3

abbrev nl_is_order : List Str := ["box", "value", "axis"]
theorem sc_is_order : FnScope nl_is_order ["box", "value"] (defScope s_is_order) := ⟨rfl, rfl, rfl, by decide +kernel, rfl, by decide +kernel, by decide +kernel⟩
def sp_is_order (K : PySem.W.Frag) : Sp := fun vs H Q _ => ∃ (vx vo : V) (x o : List Int), vs = [vx, vo] ∧ Im K H vx (tI x) ∧ Im K H vo (tI o) ∧ Ord o x.length ∧ x.length ≤ 4 ∧ RetV H Q (.bl true)
theorem ok_is_order (T : Txt K mg) : FnOk P w K mg base CX0 2 (He.ga K "is_order") (fdA K (He.ga K "is_order")) ["box", "value"] (sp_is_order K) := by
  refine T.f_is_order.ok sc_is_order (fun vs H Q E h => ?_) (fun cdv A outer s H vs Q E hr h => ?_)
  · obtain ⟨vx, vo, x, o, rfl, ix, io, ho, h4, k⟩ := h
    rfl
  · have nd := sc_is_order.nd
    have hu := hr.units
    obtain ⟨vx, vo, x, o, rfl, ix, io, ho, h4, k⟩ := h
    refine ⟨_, PSs.nox (pss_cons (ps_if (PW.pt (pw_or (pt_not (pt_val (pe_callB (clIsi (K := K) rfl) (by rfl) T.n_isinstance (by decide +kernel) (pa_cons (pv 1) (pa_cons (pe_bltn (v := .ty "tuple") (by rfl) T.n_tuple (by decide +kernel) rfl) pa_nil))))) (pw_or1 (pt_cmpR op_ne (pe_callB (clLen (K := K) rfl) (by rfl) T.n_len (by decide +kernel) (pa_cons (pv 1) pa_nil)) (pe_callB (clLen (K := K) rfl) (by rfl) T.n_len (by decide +kernel) (pa_cons (pv 0) pa_nil)) (nomark _))))) (pss_one (ps_ret pe_bl)) pss_nil)
      (pss_one (ps_ret (pe_and (pe_callB (clAll (K := K) rfl rfl) (by rfl) T.n_all (by decide +kernel) (pa_cons (pe_lc (own := [("axis", 2)]) rfl nd (piT (K := K) rfl (pv 1)) (blkOk_by (N := nl_is_order) (sc := defScope s_is_order) (by decide +kernel)) (fun _ _ _ _ _ => (pg_name (i := 2) nd rfl (Or.inl rfl))) (fun _ _ _ _ _ => pts_nil) (fun _ _ _ _ _ => (pe_call (ok_is_integer T) (hr.mono (by decide)) (by rfl) T.g_is_integer (T.f_is_integer.kp) (T.b_is_integer) .nil pass0 (pa_cons (pv 2) (pa_cons pe_int (pa_cons (pe_op op_sub (pe_callB (clLen (K := K) rfl) (by rfl) T.n_len (by decide +kernel) (pa_cons (pv 0) pa_nil)) pe_int) pa_nil)))))) pa_nil)) (pe_one (pe_cmpR op_eq (peLenSetT (K := K) rfl (by rfl) T.n_len (by rfl) T.n_set (pv 1)) (pe_callB (clLen (K := K) rfl) (by rfl) T.n_len (by decide +kernel) (pa_cons (pv 0) pa_nil)) (nomark _))))))), ?_⟩
    have hol := ho.len
    refine qif (b := false) (DT.is (dtor (dtnot (dtB (K := K) (disi (T := "tuple") (b := true) (dv rfl io) (by show kitB "tuple" "tuple" = some true; decide +kernel)))) (fun _ => dtv (K := K) (dne (dlen (ds := o.map .int) (dv rfl io)) (dlen (ds := x.map .int) (dv rfl ix)) rfl rfl rfl))) (by simp; omega)) (fun e => nomatch e) (fun _ H1 k1 => ?_)
    refine sretV (K := K) (d := .bool true) (DE.is (dand (dall (bs := o.map fun _ => true) (DL.is (dlcT (K := K) (ds := o.map .int) (fun _ => true) (fun i => .bool true) (dv rfl (io.kp k1)) (by simp; omega) (fun _ => rfl) (fun i y d H2 k2 hd hy => dyes) (fun i y d H2 k2 hd hy _ => ?_)) ?_)) (fun _ => deq (dlenSet (dv rfl (io.kp k1)) ho.nodup (by omega)) (dlen (ds := x.map .int) (dv rfl (ix.kp k1))) rfl rfl rfl)) (by simp [List.all_map]; omega)) rfl fun H2 k2 => k H2 (k1.trans k2)
    · obtain ⟨j, hj, rfl⟩ := getMap hd
      obtain ⟨c, hc, rfl⟩ := ho.mem.mp (List.mem_of_getElem? hj)
      exact DE.is (dIsInt (dv rfl hy) dint (dI0 (dlen (ds := x.map .int) (dv rfl ((ix.kp k1).kp k2))) dint)) (by simp; omega)
    · rw [gv_map2 o 0 .int (fun _ => .bool true), List.map_map]; rfl

end
end TB
/-! the written tables -/
namespace TB
open PySem PySem.Spec PyProof.Rows L2
/-- the tables of the top -/
structure Tab (K : PySem.W.Frag) (w : World) (mg : Str → Option Value) : Prop where
  gS : mg "SIZES" = some (.ref (He.ga K "SIZES"))
  gD : mg "DEEDS" = some (.ref (He.ga K "DEEDS"))
  gH : mg "SHAPES" = some (.ref (He.ga K "SHAPES"))
  S : ∃ es n, KDict K w (He.ga K "SIZES") es n
  D : ∃ es n, KDict K w (He.ga K "DEEDS") es n
  H : ∃ es n, KDict K w (He.ga K "SHAPES") es n
  s0 : ∃ u, PySem.W.nsIn K (He.ga K "SIZES") "swap" = some (some u) ∧ RelV (.int 0) u
  s1 : ∃ u, PySem.W.nsIn K (He.ga K "SIZES") "turn" = some (some u) ∧ RelV (.int 1) u
  d0 : ∃ u, PySem.W.nsIn K (He.ga K "DEEDS") "swap" = some (some u) ∧ RelV (.ref (He.ga K "swapped")) u
  d1 : ∃ u, PySem.W.nsIn K (He.ga K "DEEDS") "turn" = some (some u) ∧ RelV (.ref (He.ga K "turned")) u
  h0 : ∃ u, PySem.W.nsIn K (He.ga K "SHAPES") "swap" = some (some u) ∧ RelV (.str "") u
  h1 : ∃ u, PySem.W.nsIn K (He.ga K "SHAPES") "show" = some (some u) ∧ RelV (.str "") u
def rKin (K : PySem.W.Frag) (d : Addr) (neg : Bool) : R2 := fun x y H Q => ∃ (z : Str) (r : Option Value), x = .str z ∧ y = .ref d ∧ PySem.W.nsIn K d z = some r ∧ Q (.bl (if neg then !r.isSome else r.isSome)) H
def rKix (K : PySem.W.Frag) (d : Addr) : R2 := fun x y H Q => ∃ (z : Str) (u0 : Value) (v0 : V), x = .ref d ∧ y = .str z ∧ PySem.W.nsIn K d z = some (some u0) ∧ RelV v0 u0 ∧ Q v0 H
section
variable {X : Cx} {K : PySem.W.Frag} {w : World} {d : Addr}
theorem opKin (hK : X.K = K) (hw : X.w = w) (D : ∃ es n, KDict K w d es n) : OpR X (compareOp .In) (rKin K d false) := by
  subst hK hw
  obtain ⟨es, n, D⟩ := D
  exact op_in_kd D
theorem opKnin (hK : X.K = K) (hw : X.w = w) (D : ∃ es n, KDict K w d es n) : OpR X (compareOp .NotIn) (rKin K d true) := by
  subst hK hw
  obtain ⟨es, n, D⟩ := D
  exact op_notIn_kd D
theorem ixKd (hK : X.K = K) (hw : X.w = w) (D : ∃ es n, KDict K w d es n) : IxR X (rKix K d) := by
  subst hK hw
  obtain ⟨es, n, D⟩ := D
  intro value slice pins s σ H x y v u Q I rx ry h hs
  have h0 := h
  obtain ⟨z, u0, v0, rfl, rfl, e, r, q⟩ := h0
  have ru := rx
  cases rx
  exact tail_any (kd_type D I) F.slot_dict_getitem.lookup (op_item_kd D pins s σ H _ _ _ u Q I ru ry h) hs
theorem pgU {pos : Pos} {es : List Expr} {k : Nat} {t : TGs} {n : Nat} (hK : X.K = K) (hc : X.calm = true) (h : PGs X es t) (hn : (assignEach es X.env).length = n := by rfl) (hst : (assignEach es X.env).findIdx? (·.1) = none := by rfl) : PG X (.Tuple es k pos) (gUnl K n t) := hK ▸ pg_unl hc h hn hst
end
section
variable {K : PySem.W.Frag} {σ : L2.St} {H : Hp} {ta tb : TE} {d : Addr}
theorem dkin {z : Str} {r : Option Value} {neg : Bool} (ha : DE K ta σ H (.str z)) (e : PySem.W.nsIn K d z = some r) : DE K (tOp (rKin K d neg) ta (tC (.ref d))) σ H (.bool (if neg then !r.isSome else r.isSome)) := fun H1 k Q q =>
  ha H1 k _ fun v H2 k2 hv => by
    obtain rfl := hv.strI
    exact ⟨z, r, rfl, rfl, e, q _ H2 k2 (.bl _)⟩
theorem dkix {z : Str} {u0 : Value} {x : PyData} {v0 : V} (hb : DE K tb σ H (.str z)) (e : PySem.W.nsIn K d z = some (some u0)) (r : RelV v0 u0) (hx : scV x = some v0) : DE K (tOp (rKix K d) (tC (.ref d)) tb) σ H x := fun H1 k Q q =>
  hb H1 k _ fun v H2 k2 hv => by
    obtain rfl := hv.strI
    exact ⟨z, u0, v0, rfl, rfl, e, r, q _ H2 k2 (by cases x <;> simp [scV] at hx <;> subst hx <;> constructor)⟩
end
end TB
namespace TB
open PySem PySem.Spec PyProof.Rows L2
section
variable {P : Program} {w : World} {K : PySem.W.Frag} {mg : Str → Option Value} {base : Heap}

/-- an edit's words -/
def itD : Option (List Int) → PyData
  | none => .tuple [.str "swap"]
  | some o => .tuple [.str "turn", tI o]
/-- the page behind an edit -/
def stp : Option (List Int) → Pair × List Int → Pair × List Int
  | none, g => ((g.1.2, g.1.1), g.2)
  | some o, g => ((pm o g.1.1, pm o g.1.2), pm o g.2)
def itOk (n : Nat) : Option (List Int) → Prop
  | none => True
  | some o => Ord o n

abbrev nl_is_edit : List Str := ["value"]
theorem sc_is_edit : FnScope nl_is_edit ["value"] (defScope s_is_edit) := ⟨rfl, rfl, rfl, by decide +kernel, rfl, by decide +kernel, by decide +kernel⟩
def sp_is_edit (K : PySem.W.Frag) : Sp := fun vs H Q _ => ∃ (v : V) (o : Option (List Int)), vs = [v] ∧ Im K H v (itD o) ∧ RetV H Q (.bl true)
theorem ok_is_edit (T : Txt K mg) (B : Tab K w mg) : FnOk P w K mg base CX0 1 (He.ga K "is_edit") (fdA K (He.ga K "is_edit")) ["value"] (sp_is_edit K) := by
  refine T.f_is_edit.ok sc_is_edit (fun vs H Q E h => ?_) (fun cdv A outer s H vs Q E hr h => ?_)
  · obtain ⟨v, o, rfl, iv, k⟩ := h
    rfl
  · have nd := sc_is_edit.nd
    have hu := hr.units
    obtain ⟨v, o, rfl, iv, k⟩ := h
    refine ⟨_, PSs.nox (pss_cons (ps_if (PW.pt (pw_or (pt_not (pt_val (pe_callB (clIsi (K := K) rfl) (by rfl) T.n_isinstance (by decide +kernel) (pa_cons (pv 0) (pa_cons (pe_bltn (v := .ty "tuple") (by rfl) T.n_tuple (by decide +kernel) rfl) pa_nil))))) (pw_or (pt_cmpR op_eq (pe_callB (clLen (K := K) rfl) (by rfl) T.n_len (by decide +kernel) (pa_cons (pv 0) pa_nil)) pe_int (nomark _)) (pw_or1 (pt_not (pt_val (pe_callB (clIsi (K := K) rfl) (by rfl) T.n_isinstance (by decide +kernel) (pa_cons (pe_ix (ixT (K := K) rfl) (pv 0) pe_int (fun _ _ => rfl)) (pa_cons (pe_bltn (v := .ty "str") (by rfl) T.n_str (by decide +kernel) rfl) pa_nil))))))))) (pss_one (ps_ret pe_bl)) pss_nil)
      (pss_one (ps_ret (pe_and (pe_cmpR (opKin (K := K) rfl rfl B.S) (pe_ix (ixT (K := K) rfl) (pv 0) pe_int (fun _ _ => rfl)) (pe_glob (v := .ref (He.ga K "SIZES")) rfl B.gS rfl) (by rfl)) (pe_one (pe_cmpR op_eq (pe_callB (clLen (K := K) rfl) (by rfl) T.n_len (by decide +kernel) (pa_cons (pv 0) pa_nil)) (pe_op op_add pe_int (pe_ix (ixKd (K := K) rfl rfl B.S) (pe_glob (v := .ref (He.ga K "SIZES")) rfl B.gS rfl) (pe_ix (ixT (K := K) rfl) (pv 0) pe_int (fun _ _ => rfl)) (fun _ _ => rfl))) (nomark _))))))), ?_⟩
    obtain ⟨ds, x, e0, hds, hx, hn⟩ : ∃ (ds : List PyData) (x : Str), itD o = .tuple (.str x :: ds) ∧ ds.length ≤ 1 ∧ (∃ u, PySem.W.nsIn K (He.ga K "SIZES") x = some (some u) ∧ RelV (.int ds.length) u) ∧ True := by
      cases o with
      | none => exact ⟨[], _, rfl, by simp, B.s0, trivial⟩
      | some o => exact ⟨[tI o], _, rfl, by simp, B.s1, trivial⟩
    rw [e0] at iv
    obtain ⟨u, hu1, hu2⟩ := hx
    have h0 : atI (PyData.str x :: ds) 0 = some (.str x) := atI_nat (j := 0) rfl
    refine qif (b := false) (DT.is (dtor (dtnot (dtB (K := K) (disi (T := "tuple") (b := true) (dv rfl iv) (by show kitB "tuple" "tuple" = some true; decide +kernel)))) (fun _ => dtor (dtv (K := K) (deq (dlen (dv rfl iv)) dint rfl rfl rfl)) (fun _ => dtnot (dtB (K := K) (disi (T := "str") (b := true) (dix (dv rfl iv) dint h0) (by show kitB "str" "str" = some true; decide +kernel)))))) (by simp; omega)) (fun e => nomatch e) (fun _ H1 k1 => ?_)
    refine sretV (K := K) (d := .bool true) (DE.is (dand (dkin (dix (dv rfl (iv.kp k1)) dint h0) hu1) (fun _ => deq (dlen (dv rfl (iv.kp k1))) (dI0 dint (dkix (x := .int ds.length) (dix (dv rfl (iv.kp k1)) dint h0) hu1 hu2 rfl)) rfl rfl rfl)) (by simp; omega)) rfl fun H2 k2 => k H2 (k1.trans k2)

abbrev nl_law_lcm : List Str := ["_law_one_here", "_law_other"]
theorem sc_law_lcm : FnScope nl_law_lcm ["_law_one_here", "_law_other"] (defScope s_law_lcm) := ⟨rfl, rfl, rfl, by decide +kernel, rfl, by decide +kernel, by decide +kernel⟩
def sp_law_lcm : Sp := fun vs H Q _ => ∃ a b : Int, vs = [.int a, .int b] ∧ 0 < a ∧ a ≤ 6 ∧ 0 < b ∧ b ≤ 6 ∧ ∀ c : Int, 0 < c → c ≤ 36 → RetV H Q (.int c)
theorem ok_law_lcm (T : Txt K mg) : FnOk P w K mg base CX0 2 (He.ga K "_law_lcm") (fdA K (He.ga K "_law_lcm")) ["_law_one_here", "_law_other"] sp_law_lcm := by
  refine T.f_law_lcm.ok sc_law_lcm (fun vs H Q E h => ?_) (fun cdv A outer s H vs Q E hr h => ?_)
  · obtain ⟨a, b, rfl, ha, ha2, hb, hb2, k⟩ := h
    rfl
  · have nd := sc_law_lcm.nd
    have hu := hr.units
    obtain ⟨a, b, rfl, ha, ha2, hb, hb2, k⟩ := h
    refine ⟨_, PSs.nox (pss_one (ps_ret (pe_op op_fdivW (pe_op op_mul (pv 0) (pv 1)) (pe_call (ok_law_divisor T) (hr.mono (by decide)) (by rfl) T.g_law_divisor (T.f_law_divisor.kp) (T.b_law_divisor) .nil pass0 (pa_cons (pv 0) (pa_cons (pv 1) pa_nil)))))), ?_⟩
    have hd : (Int.gcd a b : Int) ∣ a * b := Int.dvd_trans (Int.gcd_dvd_left ..) (Int.dvd_mul_right a b)
    have hg : 0 < (Int.gcd a b : Int) := by
      have := Int.gcd_pos_of_ne_zero_left b (show a ≠ 0 by omega)
      omega
    have hm : 0 < a * b := Int.mul_pos ha hb
    have hm2 : a * b ≤ 36 := Int.le_trans (Int.mul_le_mul_of_nonneg_right ha2 (by omega)) (by omega)
    refine sretV (K := K) (d := .int (a * b / (Int.gcd a b : Int))) (dI (dI (dv rfl (.int a)) (dv rfl (.int b)) (.inl ⟨by omega, by omega⟩)) (dcall (ds := [.int a, .int b]) (dacons (dv rfl (.int a)) (dacons (dv rfl (.int b)) danil)) fun vs H1 k1 hv Q1 q1 => ?_) ?_) rfl ?_
    · obtain ⟨v1, v2, rfl, i1, i2⟩ := hv.inv2
      obtain rfl := i1.intI
      obtain rfl := i2.intI
      exact ⟨a, b, rfl, by omega, by omega, fun H2 k2 => q1 _ H2 k2 (.int _)⟩
    · refine ⟨hg, ?_⟩
      have h1 : (Int.gcd a b : Int) ≤ a := Int.le_of_dvd ha (Int.gcd_dvd_left ..)
      have := log_small hg (by omega)
      omega
    · exact k _ (Int.ediv_pos_of_pos_of_dvd hm (by omega) hd) (Int.le_trans (Int.ediv_le_self _ (by omega)) hm2)


abbrev cs_turned : Scope := ⟨.function, [(".0", .local), ("sides", .cell), ("tuple", .globalImplicit), ("order", .cell)], false, false, []⟩
theorem q3pU {te : TE} {i j l : Nat} {σ : L2.St} {H : Hp} {d e f : PyData} {tz : TS} {D : Ends} (ha : DL K te σ H [d, e, f]) (k : ∀ u v w H1, Kp [] H H1 → Im K H1 u d → Im K H1 v e → Im K H1 w f → tz D (((σ.set i (some u)).set j (some v)).set l (some w)) H1) : tSeq (tAsg te (gUnl K 3 (gCons (gName i) (gCons (gName j) (gCons (gName l) gNil))))) tz D σ H :=
  ha H .refl _ fun p H1 xs k1 _ hp hx => by
    obtain ⟨u, v, w, rfl, h1, h2, h3⟩ := hx.inv3
    exact ⟨p, _, rfl, SqL.of hp, rfl, _, _, rfl, _, _, rfl, _, _, rfl, rfl, k u v w H1 k1 h1 h2 h3⟩

abbrev nl_turned : List Str := ["page", "order", "pair", "box", "first", "second", "third", "axis", "sides"]
theorem sc_turned : FnScope nl_turned ["page", "order"] (defScope s_turned) := ⟨rfl, rfl, rfl, by decide +kernel, rfl, by decide +kernel, by decide +kernel⟩
def sp_turned (K : PySem.W.Frag) : Sp := fun vs H Q _ => ∃ (vg vo : V) (a b x o : List Int), vs = [vg, vo] ∧ Im K H vg (pageD ((a, b), x)) ∧ Im K H vo (tI o) ∧ Bx a b x ∧ Ord o x.length ∧ Ret K H Q (pageD ((pm o a, pm o b), pm o x))
theorem ok_turned (T : Txt K mg) : FnOk P w K mg base CX0 3 (He.ga K "turned") (fdA K (He.ga K "turned")) ["page", "order"] (sp_turned K) := by
  refine T.f_turned.ok sc_turned (fun vs H Q E h => ?_) (fun cdv A outer s H vs Q E hr h => ?_)
  · obtain ⟨vg, vo, a, b, x, o, rfl, ig, io, B, ho, k⟩ := h
    rfl
  · have nd := sc_turned.nd
    have hu := hr.units
    obtain ⟨vg, vo, a, b, x, o, rfl, ig, io, B, ho, k⟩ := h
    refine ⟨_, PSs.nox (pss_cons (ps_asg (pv 0) (pgT (K := K) (n := 2) rfl rfl (pgs_cons (pg_name (i := 2) nd rfl (Or.inl rfl)) (pgs_cons (pg_name (i := 3) nd rfl (Or.inl rfl)) pgs_nil))))
      (pss_cons (ps_if (pt_not (pt_val (pe_call (ok_is_order T) (hr.mono (by decide)) (by rfl) T.g_is_order (T.f_is_order.kp) (T.b_is_order) .nil pass0 (pa_cons (pv 3) (pa_cons (pv 1) pa_nil))))) (pss_one ps_never) pss_nil)
      (pss_cons (ps_asg (pe_lc (own := [("sides", 8)]) rfl nd (piT (K := K) rfl (pe_tup (pa_cons (pe_ix (ixT (K := K) rfl) (pv 2) pe_int (fun _ _ => rfl)) (pa_cons (pe_ix (ixT (K := K) rfl) (pv 2) pe_int (fun _ _ => rfl)) (pa_cons (pv 3) pa_nil))))) (blkOk_by (N := nl_turned) (sc := defScope s_turned) (by decide +kernel)) (fun _ _ _ _ _ => (pg_name (i := 8) nd rfl (Or.inr rfl))) (fun _ _ _ _ _ => pts_nil) (fun _ _ _ _ _ => (pe_callTy (clTuple (K := K) rfl) (by rfl) T.n_tuple (by decide +kernel) (pa_cons (pe_lc (own := [("axis", 7)]) rfl nd (piT (K := K) rfl (pv 1)) (blkOk_by (N := nl_turned) (sc := cs_turned) (by decide +kernel)) (fun _ _ _ _ _ => (pg_name (i := 7) nd rfl (Or.inl rfl))) (fun _ _ _ _ _ => pts_nil) (fun _ _ _ _ _ => (pe_ix (ixT (K := K) rfl) (pv 8) (pv 7) (fun _ _ => rfl)))) pa_nil)))) (pgU (K := K) (n := 3) rfl rfl (pgs_cons (pg_name (i := 4) nd rfl (Or.inl rfl)) (pgs_cons (pg_name (i := 5) nd rfl (Or.inl rfl)) (pgs_cons (pg_name (i := 6) nd rfl (Or.inl rfl)) pgs_nil)))))
      (pss_one (ps_ret (pe_tup (pa_cons (pe_tup (pa_cons (pv 4) (pa_cons (pv 5) pa_nil))) (pa_cons (pv 6) pa_nil)))))))), ?_⟩
    have hol := ho.len
    have hla := B.la
    have hlb := B.lb
    have h14 := B.l4
    refine q2 (K := K) (x := pairD (a, b)) (y := tI x) (dv rfl ig) fun v w H1 k1 i1 i2 => ?_
    refine qif (b := false) (DT.is (dtnot (dtB (K := K) (dcall (ds := [tI x, tI o]) (d := .bool true) (dacons (dv rfl i2) (dacons (dv rfl (io.kp k1)) danil)) fun vs H2 k2 hv Q1 q1 => ?_))) rfl) (fun e => nomatch e) (fun _ H2 k2 => ?_)
    · obtain ⟨v1, v2, rfl, j1, j2⟩ := hv.inv2
      exact ⟨v1, v2, x, o, rfl, j1, j2, ho, B.l4, fun H3 k3 => q1 _ H3 k3 (.bl _)⟩
    have hall : ∀ (i : Nat) (d : PyData), ([a, b, x].map tI)[i]? = some d → ∃ c, [a, b, x][i]? = some c ∧ d = tI c ∧ c.length = x.length := by
      intro i d hd
      obtain ⟨c, hc, rfl⟩ := getMap hd
      refine ⟨c, hc, rfl, ?_⟩
      have hm : c = a ∨ c = b ∨ c = x := by simpa using List.mem_of_getElem? hc
      rcases hm with rfl | rfl | rfl
      · exact hla
      · exact hlb
      · rfl
    refine q3pU (d := tI (pm o a)) (e := tI (pm o b)) (f := tI (pm o x)) (DL.is (dlcT (K := K) (ds := [a, b, x].map tI) (fun _ => true) (fun i => tI (pm o ([a, b, x].getD i []))) (dtup (dacons (dix (dv rfl (i1.kp k2)) dint at0) (dacons (dix (dv rfl (i1.kp k2)) dint at1) (dacons (dv rfl (i2.kp k2)) danil)))) (by simp) (fun _ => rfl) (fun i y d H3 k3 hd hy => dyes) (fun i y d H3 k3 hd hy _ => ?_)) (gv_map2 [a, b, x] [] tI fun c => tI (pm o c))) fun u v' w' H3 k3 j1 j2 j3 => ?_
    · obtain ⟨c, hc, rfl, hcl⟩ := hall i d hd
      rw [getD_of' hc]
      refine dtupOf (DL.is (dlcT (K := K) (ds := o.map .int) (fun _ => true) (fun n => .int (c.getD (o.getD n 0).toNat 0)) (dv rfl (((io.kp k1).kp k2).kp k3)) (by simp; omega) (fun _ => rfl) (fun n y2 d2 H4 k4 hd2 hy2 => dyes) (fun n y2 d2 H4 k4 hd2 hy2 _ => ?_)) (pm_gv (n := 0)))
      obtain ⟨j, hj, rfl⟩ := getMap hd2
      rw [getD_of hj]
      exact dix (dv rfl (hy.kp k4)) (dv rfl hy2) (ord_at ho hcl (List.mem_of_getElem? hj))
    exact sret (K := K) (d := pageD ((pm o a, pm o b), pm o x)) (dtup (dacons (dtup (dacons (dv rfl j1) (dacons (dv rfl j2) danil))) (dacons (dv rfl j3) danil))) fun v4 H4 k4 hv => k v4 H4 (k1.trans (k2.trans (k3.trans k4))) hv


def idx (n : Nat) : List PyData := (List.range n).map fun i => PyData.int (i : Nat)
theorem dlrg {ta : TE} {σ : L2.St} {H : Hp} {n : Nat} (ha : DE K ta σ H (.int (n : Int))) (hn : n ≤ 10000) : DL K (tLstRg (tRg1 ta)) σ H (idx n) := fun H1 k1 Q q =>
  ha H1 k1 _ fun v H2 k2 hv => by
    obtain rfl := hv.intI
    refine ⟨_, rfl, RgOk.of_le (by omega) (by omega) (by omega) (by omega), fun p hp => ?_⟩
    have e : rgV 0 (n : Int) = (List.range n).map fun i => V.int ((i : Nat) : Int) := by
      unfold rgV
      simp
    rw [e]
    have h2 : ImAll K (upd H2 p (.lst ((List.range n).map fun i => V.int ((i : Nat) : Int)))) ((List.range n).map fun i => V.int ((i : Nat) : Int)) (idx n) := by
      have := ImAll.ints (K := K) (H := upd H2 p (.lst ((List.range n).map fun i => V.int ((i : Nat) : Int)))) ((List.range n).map fun i => ((i : Nat) : Int))
      rw [List.map_map, List.map_map] at this
      exact this
    exact q p _ _ (k2.wn (k2.free hp)) (k2.free hp) upd_same h2
theorem idx_shaped (n : Nat) : SeqAt.shaped (.list (idx n)) = true := by
  have := shaped_ints ((List.range n).map fun i => ((i : Nat) : Int))
  rw [List.map_map] at this
  exact this
theorem idx_eqv (n : Nat) : PyData.eqv (.list (idx n)) (.list (idx n)) = true := by
  have := eqv_intsL ((List.range n).map fun i => ((i : Nat) : Int)) ((List.range n).map fun i => ((i : Nat) : Int))
  rw [List.map_map] at this
  exact this.trans (by simp)
theorem dNLvR {ta : TE} {σ : L2.St} {H : Hp} {ds es : List PyData} {i : Nat} {p : Addr} {xs : List V} (hb : DL K ta σ H es) (hv : σ[i]? = some (some (.ref p))) (hp : SqL K H p xs) (hx : ImAll K H xs ds) (s2 : SeqAt.shaped (.list es) = true) (s1 : SeqAt.shaped (.list ds) = true) : DE K (tOp (rNeD K) ta (tVar i)) σ H (.bool (!PyData.eqv (.list es) (.list ds))) := fun H1 k Q q =>
  hb H1 k _ fun p' H3 ys k3 n3 h4 h5 => ⟨_, hv, _, _, .lst (.of h4) h5.dp, .lst ((k.trans k3).sqL hp) (hx.kp (k.trans k3)).dp, s2, s1, q _ H3 k3 (.bl _)⟩
abbrev cs_law_turned_page : Scope := ⟨.function, [(".0", .local), ("_law_sides_here", .cell), ("tuple", .globalImplicit), ("_law_order", .cell)], false, false, []⟩

abbrev nl_law_turned_page : List Str := ["_law_page", "_law_order", "_law_pair_here", "_law_box", "_law_every", "_law_axis", "_law_rows", "_law_sides_here"]
theorem sc_law_turned_page : FnScope nl_law_turned_page ["_law_page", "_law_order"] (defScope s_law_turned_page) := ⟨rfl, rfl, rfl, by decide +kernel, rfl, by decide +kernel, by decide +kernel⟩
def sp_law_turned_page (K : PySem.W.Frag) : Sp := fun vs H Q _ => ∃ (vg vo : V) (a b x o : List Int), vs = [vg, vo] ∧ Im K H vg (pageD ((a, b), x)) ∧ Im K H vo (tI o) ∧ Bx a b x ∧ Ord o x.length ∧ Ret K H Q (pageD ((pm o a, pm o b), pm o x))
theorem ok_law_turned_page (T : Txt K mg) : FnOk P w K mg base CX0 2 (He.ga K "_law_turned_page") (fdA K (He.ga K "_law_turned_page")) ["_law_page", "_law_order"] (sp_law_turned_page K) := by
  refine T.f_law_turned_page.ok sc_law_turned_page (fun vs H Q E h => ?_) (fun cdv A outer s H vs Q E hr h => ?_)
  · obtain ⟨vg, vo, a, b, x, o, rfl, ig, io, B, ho, k⟩ := h
    rfl
  · have nd := sc_law_turned_page.nd
    have hu := hr.units
    obtain ⟨vg, vo, a, b, x, o, rfl, ig, io, B, ho, k⟩ := h
    refine ⟨_, PSs.nox (pss_cons (ps_asg (pv 0) (pgT (K := K) (n := 2) rfl rfl (pgs_cons (pg_name (i := 2) nd rfl (Or.inl rfl)) (pgs_cons (pg_name (i := 3) nd rfl (Or.inr rfl)) pgs_nil))))
      (pss_cons (ps_set (i := 4) nd rfl (Or.inl rfl) (pe_listRg rfl (by rfl) T.n_list (prg_1 (by rfl) T.n_range (pe_callB (clLen (K := K) rfl) (by rfl) T.n_len (by decide +kernel) (pa_cons (pv 3) pa_nil)))))
      (pss_cons (ps_if (PW.pt (pw_or (pt_not (pt_val (pe_callB (clIsi (K := K) rfl) (by rfl) T.n_isinstance (by decide +kernel) (pa_cons (pv 1) (pa_cons (pe_bltn (v := .ty "tuple") (by rfl) T.n_tuple (by decide +kernel) rfl) pa_nil))))) (pw_or1 (pt_cmpR (opNeD (K := K) rfl hu) (pe_lc (own := [("_law_axis", 5)]) rfl nd (piT (K := K) rfl (pv 1)) (blkOk_by (N := nl_law_turned_page) (sc := defScope s_law_turned_page) (by decide +kernel)) (fun _ _ _ _ _ => (pg_name (i := 5) nd rfl (Or.inl rfl))) (fun _ _ _ _ _ => (pts_one (pt_not (pt_val (pe_call (ok_law_whole T) (hr.mono (by decide)) (by rfl) T.g_law_whole (T.f_law_whole.kp) (T.b_law_whole) .nil pass0 (pa_cons (pv 5) (pa_cons pe_int (pa_cons (pe_op op_sub (pe_callB (clLen (K := K) rfl) (by rfl) T.n_len (by decide +kernel) (pa_cons (pv 3) pa_nil)) pe_int) pa_nil)))))))) (fun _ _ _ _ _ => (pv 5))) (pe_lst pa_nil) (nomark _))))) (pss_one ps_never) pss_nil)
      (pss_cons (ps_if (pt_cmpR (opNeD (K := K) rfl hu) (pe_callB (clSortT (K := K) rfl) (by rfl) T.n_sorted (by decide +kernel) (pa_cons (pv 1) pa_nil)) (pv 4) (nomark _)) (pss_one ps_never) pss_nil)
      (pss_cons (ps_setLc (i := 6) (own := [("_law_sides_here", 7)]) rfl nd rfl rfl (sw_true rfl rfl rfl (by decide +kernel)) (piT (K := K) rfl (pe_tup (pa_cons (pe_ix (ixT (K := K) rfl) (pv 2) pe_int (fun _ _ => rfl)) (pa_cons (pe_ix (ixT (K := K) rfl) (pv 2) pe_int (fun _ _ => rfl)) (pa_cons (pv 3) pa_nil))))) (blkOk_by (N := nl_law_turned_page) (sc := defScope s_law_turned_page) (by decide +kernel)) (fun _ _ _ _ _ => (pg_name (i := 7) nd rfl (Or.inr rfl))) (fun _ _ _ _ _ => pts_nil) (fun _ _ _ _ _ => (pe_callTy (clTuple (K := K) rfl) (by rfl) T.n_tuple (by decide +kernel) (pa_cons (pe_lc (own := [("_law_axis", 5)]) rfl nd (piT (K := K) rfl (pv 1)) (blkOk_by (N := nl_law_turned_page) (sc := cs_law_turned_page) (by decide +kernel)) (fun _ _ _ _ _ => (pg_name (i := 5) nd rfl (Or.inl rfl))) (fun _ _ _ _ _ => pts_nil) (fun _ _ _ _ _ => (pe_ix (ixT (K := K) rfl) (pv 7) (pv 5) (fun _ _ => rfl)))) pa_nil))))
      (pss_one (ps_ret (pe_tup (pa_cons (pe_tup (pa_cons (pe_ix (ixL (K := K) rfl) (pv 6) pe_int (fun _ _ => rfl)) (pa_cons (pe_ix (ixL (K := K) rfl) (pv 6) pe_int (fun _ _ => rfl)) pa_nil))) (pa_cons (pe_ix (ixL (K := K) rfl) (pv 6) pe_int (fun _ _ => rfl)) pa_nil)))))))))), ?_⟩
    have hol := ho.len
    have hla := B.la
    have hlb := B.lb
    have h14 := B.l4
    refine q2 (K := K) (x := pairD (a, b)) (y := tI x) (dv rfl ig) fun v w H1 k1 i1 i2 => ?_
    refine qasgL (K := K) (ds := idx x.length) (dlrg (DE.is (dlen (ds := x.map .int) (dv rfl i2)) (by simp)) (by omega)) fun pe H2 xe k2 _ hpe hxe => ?_
    have io2 := (io.kp k1).kp k2
    refine qif (b := false) (DT.is (dtor (dtnot (dtB (K := K) (disi (T := "tuple") (b := true) (dv rfl io2) (by show kitB "tuple" "tuple" = some true; decide +kernel)))) (fun _ => dtv (K := K) (dNL (es := []) (dlcT (K := K) (ds := o.map .int) (fun _ => false) (fun _ => .none) (dv rfl io2) (by simp; omega) (fun _ => rfl) (fun i y d H3 k3 hd hy => ?_) (fun i y d H3 k3 hd hy h => nomatch h)) (dlst danil) ?_ shaped_nil))) ?_) (fun e => nomatch e) (fun _ H3 k3 => ?_)
    · obtain ⟨j, hj, rfl⟩ := getMap hd
      obtain ⟨c, hc, rfl⟩ := ho.mem.mp (List.mem_of_getElem? hj)
      exact DT.is (dtnot (dtv (K := K) (dcall (ds := [.int (c : Int), .int 0, .int ((x.length : Int) - 1)]) (d := .bool true) (dacons (dv rfl hy) (dacons dint (dacons (DE.is (dI0 (dlen (ds := x.map .int) (dv rfl ((i2.kp k2).kp k3))) dint) (by simp)) danil))) fun vs H4 k4 hv Q4 q4 => by
        obtain ⟨v1, v2, v3, rfl, i1, i2, i3⟩ := hv.inv3
        obtain rfl := i1.intI
        obtain rfl := i2.intI
        obtain rfl := i3.intI
        exact ⟨_, _, _, rfl, fun H2 k2 => by
          have e : decide ((0 : Int) ≤ c ∧ (c : Int) ≤ (x.length : Int) - 1) = true := by simp; omega
          rw [e]
          exact q4 _ H2 k2 (.bl _)⟩))) rfl
    · have e : gv (o.map PyData.int).length (fun _ => false) (fun _ => PyData.none) = [] := by simp [gv]
      rw [e]
      exact shaped_nil
    · have e : gv (o.map PyData.int).length (fun _ => false) (fun _ => PyData.none) = [] := by simp [gv]
      rw [e, eqv_nil]; simp
    have k13 := k1.trans (k2.trans k3)
    refine qif (b := false) (DT.is (dtv (K := K) (dNLvR (es := idx x.length) (ds := idx x.length) (dsortT (ns := o) (dv rfl (io2.kp k3)) (by omega) fun ns' p1 p2 => ?_) rfl (SqL.of (k3.get hpe)) (hxe.kp k3) (idx_shaped _) (idx_shaped _))) ?_) (fun e => nomatch e) (fun _ H4 k4 => ?_)
    · rw [ord_sorted ho p1 p2, List.map_map]; rfl
    · rw [idx_eqv]; rfl
    have hall : ∀ (i : Nat) (d : PyData), ([a, b, x].map tI)[i]? = some d → ∃ c, [a, b, x][i]? = some c ∧ d = tI c ∧ c.length = x.length := by
      intro i d hd
      obtain ⟨c, hc, rfl⟩ := getMap hd
      refine ⟨c, hc, rfl, ?_⟩
      have hm : c = a ∨ c = b ∨ c = x := by simpa using List.mem_of_getElem? hc
      rcases hm with rfl | rfl | rfl
      · exact hla
      · exact hlb
      · rfl
    have k14 := k2.trans (k3.trans k4)
    refine qasgL (K := K) (ds := [tI (pm o a), tI (pm o b), tI (pm o x)]) (DL.is (dlcT (K := K) (ds := [a, b, x].map tI) (fun _ => true) (fun i => tI (pm o ([a, b, x].getD i []))) (dtup (dacons (dix (dv rfl (i1.kp k14)) dint at0) (dacons (dix (dv rfl (i1.kp k14)) dint at1) (dacons (dv rfl (i2.kp k14)) danil)))) (by simp) (fun _ => rfl) (fun i y d H5 k5 hd hy => dyes) (fun i y d H5 k5 hd hy _ => ?_)) (gv_map2 [a, b, x] [] tI fun c => tI (pm o c))) fun pr H5 xr k5 _ hpr hxr => ?_
    · obtain ⟨c, hc, rfl, hcl⟩ := hall i d hd
      rw [getD_of' hc]
      refine dtupOf (DL.is (dlcT (K := K) (ds := o.map .int) (fun _ => true) (fun n => .int (c.getD (o.getD n 0).toNat 0)) (dv rfl ((io2.kp (k3.trans k4)).kp k5)) (by simp; omega) (fun _ => rfl) (fun n y2 d2 H6 k6 hd2 hy2 => dyes) (fun n y2 d2 H6 k6 hd2 hy2 _ => ?_)) (pm_gv (n := 0)))
      obtain ⟨j, hj, rfl⟩ := getMap hd2
      rw [getD_of hj]
      exact dix (dv rfl (hy.kp k6)) (dv rfl hy2) (ord_at ho hcl (List.mem_of_getElem? hj))
    have g0 : atI [tI (pm o a), tI (pm o b), tI (pm o x)] 0 = some (tI (pm o a)) := atI_nat (j := 0) rfl
    have g1 : atI [tI (pm o a), tI (pm o b), tI (pm o x)] 1 = some (tI (pm o b)) := atI_nat (j := 1) rfl
    have g2 : atI [tI (pm o a), tI (pm o b), tI (pm o x)] 2 = some (tI (pm o x)) := atI_nat (j := 2) rfl
    exact sret (K := K) (d := pageD ((pm o a, pm o b), pm o x)) (dtup (dacons (dtup (dacons (dixV rfl (SqL.of hpr) hxr dint g0) (dacons (dixV rfl (SqL.of hpr) hxr dint g1) danil))) (dacons (dixV rfl (SqL.of hpr) hxr dint g2) danil))) fun v6 H6 k6 hv => k v6 H6 (k1.trans (k14.trans (k5.trans k6))) hv

abbrev nl_law_page_after : List Str := ["_law_page", "_law_edit", "_law_pair_here", "_law_box", "_law_word", "_law_last", "_law_axis", "_law_number", "_law_own", "_law_rows", "_law_sides_here"]
theorem sc_law_page_after : FnScope nl_law_page_after ["_law_page", "_law_edit"] (defScope s_law_page_after) := ⟨rfl, rfl, rfl, by decide +kernel, rfl, by decide +kernel, by decide +kernel⟩
def sp_law_page_after (K : PySem.W.Frag) : Sp := fun vs H Q _ => ∃ (vg ve : V) (a b x : List Int) (o : Option (List Int)), vs = [vg, ve] ∧ Im K H vg (pageD ((a, b), x)) ∧ Im K H ve (itD o) ∧ Bx a b x ∧ itOk x.length o ∧ Ret K H Q (pageD (stp o ((a, b), x)))
theorem ok_law_page_after (T : Txt K mg) : FnOk P w K mg base CX0 3 (He.ga K "_law_page_after") (fdA K (He.ga K "_law_page_after")) ["_law_page", "_law_edit"] (sp_law_page_after K) := by
  refine T.f_law_page_after.ok sc_law_page_after (fun vs H Q E h => ?_) (fun cdv A outer s H vs Q E hr h => ?_)
  · obtain ⟨vg, ve, a, b, x, o, rfl, ig, ie, B, ho, k⟩ := h
    rfl
  · have nd := sc_law_page_after.nd
    have hu := hr.units
    obtain ⟨vg, ve, a, b, x, o, rfl, ig, ie, B, ho, k⟩ := h
    refine ⟨_, PSs.nox (pss_cons (ps_asg (pv 0) (pgT (K := K) (n := 2) rfl rfl (pgs_cons (pg_name (i := 2) nd rfl (Or.inl rfl)) (pgs_cons (pg_name (i := 3) nd rfl (Or.inl rfl)) pgs_nil))))
      (pss_cons (ps_par (i := 4) (j := 5) rfl nd rfl rfl (by decide) rfl rfl (pa_cons (pe_ix (ixT (K := K) rfl) (pv 1) pe_int (fun _ _ => rfl)) (pa_cons (pe_op op_sub (pe_callB (clLen (K := K) rfl) (by rfl) T.n_len (by decide +kernel) (pa_cons (pv 3) pa_nil)) pe_int) pa_nil)) (by rfl))
      (pss_cons (ps_if (pt_cmpR op_eq (pv 4) pe_str (nomark _)) (pss_one (ps_ret (pe_tup (pa_cons (pe_tup (pa_cons (pe_ix (ixT (K := K) rfl) (pv 2) pe_int (fun _ _ => rfl)) (pa_cons (pe_ix (ixT (K := K) rfl) (pv 2) pe_int (fun _ _ => rfl)) pa_nil))) (pa_cons (pv 3) pa_nil))))) pss_nil)
      (pss_cons (ps_if (pt_cmpR op_eq (pv 4) pe_str (nomark _)) (pss_one (ps_ret (pe_call (ok_law_turned_page T) (hr.mono (by decide)) (by rfl) T.g_law_turned_page (T.f_law_turned_page.kp) (T.b_law_turned_page) .nil pass0 (pa_cons (pv 0) (pa_cons (pe_ix (ixT (K := K) rfl) (pv 1) pe_int (fun _ _ => rfl)) pa_nil))))) pss_nil)
      pss_never)))), ?_⟩
    refine q2 (K := K) (x := pairD (a, b)) (y := tI x) (dv rfl ig) fun v w H1 k1 i1 i2 => ?_
    have hT : ∃ z ds, itD o = .tuple (.str z :: ds) ∧ (o = none → z = "swap" ∧ ds = []) ∧ (∀ l, o = some l → z = "turn" ∧ ds = [tI l]) := by
      cases o with
      | none => exact ⟨_, _, rfl, fun _ => ⟨rfl, rfl⟩, (fun l h => nomatch h)⟩
      | some l => exact ⟨_, _, rfl, (fun h => nomatch h), fun m h => by cases h; exact ⟨rfl, rfl⟩⟩
    obtain ⟨z, ds, e0, e1, e2⟩ := hT
    rw [e0] at ie
    have h0 : atI (PyData.str z :: ds) 0 = some (.str z) := atI_nat (j := 0) rfl
    refine q2p (K := K) (d := .str z) (e := .int ((x.length : Int) - 1)) (dacons (dix (dv rfl (ie.kp k1)) dint h0) (dacons (DE.is (dI0 (dlen (ds := x.map .int) (dv rfl i2)) dint) (by simp)) danil)) fun u1 u2 H2 k2 j1 j2 => ?_
    obtain rfl := j1.strI
    cases o with
    | none =>
      obtain ⟨rfl, rfl⟩ := e1 rfl
      refine qif (b := true) (DT.is (dtv (K := K) (deq (dv rfl (.str _)) dstr rfl rfl rfl)) (by simp)) (fun _ H3 k3 => ?_) (fun e => nomatch e)
      exact sret (K := K) (d := pageD ((b, a), x)) (dtup (dacons (dtup (dacons (dix (dv rfl ((i1.kp k2).kp k3)) dint at1) (dacons (dix (dv rfl ((i1.kp k2).kp k3)) dint at0) danil))) (dacons (dv rfl ((i2.kp k2).kp k3)) danil))) fun v4 H4 k4 hv => k v4 H4 (k1.trans (k2.trans (k3.trans k4))) hv
    | some l =>
      obtain ⟨rfl, rfl⟩ := e2 l rfl
      have h1 : atI [PyData.str "turn", tI l] 1 = some (tI l) := atI_nat (j := 1) rfl
      refine qif (b := false) (DT.is (dtv (K := K) (deq (dv rfl (.str _)) dstr rfl rfl rfl)) (by decide +kernel)) (fun e => nomatch e) (fun _ H3 k3 => ?_)
      refine qif (b := true) (DT.is (dtv (K := K) (deq (dv rfl (.str _)) dstr rfl rfl rfl)) (by simp)) (fun _ H4 k4 => ?_) (fun e => nomatch e)
      refine sret (K := K) (d := pageD ((pm l a, pm l b), pm l x)) (dcall (ds := [pageD ((a, b), x), tI l]) (dacons (dv rfl (ig.kp (k1.trans (k2.trans (k3.trans k4))))) (dacons (dix (dv rfl (ie.kp (k1.trans (k2.trans (k3.trans k4))))) dint h1) danil)) fun vs H5 k5 hv Q5 q5 => ?_) fun v6 H6 k6 hv => k v6 H6 (k1.trans (k2.trans (k3.trans (k4.trans k6)))) hv
      obtain ⟨v1, v2, rfl, i1, i2⟩ := hv.inv2
      exact ⟨v1, v2, a, b, x, l, rfl, i1, i2, B, ho, q5⟩

end
end TB
/-! rules for the special methods of the text's own classes
The steps follow those of the library: HandS.OwnEq, HandS.CallLocal, HandS.MakeKwOnly; below them stand the KE rules. -/
namespace TB
open PySem PySem.Spec PyProof.Rows L2
section
variable {X : Cx} {CX : CXT} {k : Nat} {C f : Addr} {fd : FuncData} {ps : List Str} {sp : Sp} {E : XK} {pz : List (Addr × Obj)} {τ : L2.St} {H : Hp} {s : Shared}
/-- a callee that runs deeper than the body that asks -/
theorem run_at {A : Around} {Q : VK} {us : List Value} {vs : List V} (F : FnOk X.prog X.w X.K X.mg X.base CX k f fd ps sp) (hr : Room k A) (hA : A.frames = X.A.frames) (hb : Binds X.K fd ps []) (hx : Passes CX X E) (Nv : Inv X pz τ H s) (r : Vals vs us) (h : sp vs H Q E) :
    wpAny (model X.prog X.w) A (call (.ref f) us) (EP X pz τ Q) X.xe s := by
  have env0 : Env0 X.prog X.w X.K X.mg X.base A X.stack s H := by
    have e := Nv.env0
    exact ⟨hA ▸ e.frames, e.mod, e.bs, e.bsz, e.funs, e.frf, e.hok, e.bare⟩
  have hl : (us ++ []).length = ps.length := by rw [List.append_nil, ← r.length]; exact F.len _ _ _ _ h
  have hb1 := hb s us Nv.kIn hl
  rw [List.append_nil] at hb1
  refine wpAny_call (codeAny_mono (F.run A X.stack s H ⟨us, []⟩ us vs Q E hr env0 hb1 r h) fun z s' hq => ?_)
  cases z with
  | error e => exact hx pz τ H s e s' Nv hq
  | ok fl =>
    cases fl with
    | ret w => exact Nv.after hq
    | next => exact False.elim hq
    | brk => exact False.elim hq
    | cont => exact False.elim hq
/-- the class has the name as a def -/
structure Own (K : PySem.W.Frag) (C : Addr) (m : Str) (f : Addr) : Prop where
  at_ : PySem.W.findIn K (.ref C) m = some (some (.ref f))
  fn : PySem.W.isFn K (.ref f) = true
theorem inst_of {a dx : Addr} {fs : List (Str × V)} (Nv : Inv X pz τ H s) (atA : H a = some (.ins C dx fs)) : ∃ od, PySem.W.InstAt s.heap a (PySem.W.instObj C dx) C (some od) := by
  obtain ⟨mA, O, _⟩ := ins_get Nv.hok atA
  obtain ⟨od, J, _⟩ := O.look
  exact ⟨od, J⟩
/-- len(o) by the class's own __len__ -/
def rLenO (C : Addr) (sp : Sp) (E : XK) : List V → Hp → VK → Prop := fun xs H Q => ∃ a dx fs, xs = [.ref a] ∧ H a = some (.ins C dx fs) ∧ sp [.ref a] H (fun v H' => ∃ n : Int, v = .int n ∧ 0 ≤ n ∧ n < 2 ^ 63 ∧ Q (.int n) H') E
theorem clLenO (F : FnOk X.prog X.w X.K X.mg X.base CX k f fd ps sp) (hr : Room (k + 1) X.A) (hb : Binds X.K fd ps []) (hx : Passes CX X E) (o : Own X.K C "__len__" f) : CallR X (.builtin "len") (rLenO C sp E) := by
  intro pz s τ H xs us Q Nv r h
  obtain ⟨a, dx, fs, rfl, atA, h⟩ := h
  cases r with
  | cons relX rr =>
  cases rr
  cases relX
  obtain ⟨od, J⟩ := inst_of Nv atA
  obtain ⟨m, hF⟩ : ∃ m, Fr X.base X.env.locals s.heap m := Nv.fr
  refine PySem.W.len_K hF Nv.ok.mod.kin J o.at_ o.fn (wpAny_mono (run_at (vs := [V.ref a]) F hr.in1 rfl hb hx Nv (.cons rfl .nil) h) (fun v s' q => ?_) fun _ _ z => z)
  obtain ⟨v', H', I', rv, n, rfl, h0, h1, q⟩ := q
  obtain ⟨t, rfl⟩ := rv
  exact ⟨⟨h0, h1⟩, .int n, H', I'.tok _, ⟨_, rfl⟩, q⟩
/-- bool(o) by the class's own __bool__ -/
def rBoolO (C : Addr) (sp : Sp) (E : XK) : List V → Hp → VK → Prop := fun xs H Q => ∃ a dx fs, xs = [.ref a] ∧ H a = some (.ins C dx fs) ∧ sp [.ref a] H (fun v H' => ∃ b : Bool, v = .bl b ∧ Q (.bl b) H') E
theorem clBoolO (F : FnOk X.prog X.w X.K X.mg X.base CX k f fd ps sp) (hr : Room (k + 2) X.A) (hb : Binds X.K fd ps []) (hx : Passes CX X E) (o : Own X.K C "__bool__" f) : CallR X (.type "bool") (rBoolO C sp E) := by
  intro pz s τ H xs us Q Nv r h
  obtain ⟨a, dx, fs, rfl, atA, h⟩ := h
  cases r with
  | cons relX rr =>
  cases rr
  cases relX
  obtain ⟨od, J⟩ := inst_of Nv atA
  obtain ⟨m, hF⟩ : ∃ m, Fr X.base X.env.locals s.heap m := Nv.fr
  have hw := run_at (vs := [V.ref a]) (A := X.A.in1.in1) F hr.in1.in1 rfl hb hx Nv (.cons rfl .nil) h
  refine callType_codes (T := "bool") (Bi := Builtin.«object.__init__») (Q₁ := fun r s₁ => ∃ b : Bool, r = .bool b ∧ EP X pz τ Q (.bool b) s₁) PySem.F.called_bool (PySem.F.typeCall_bool_1 _) PySem.F.entry_object_init ?_ ?_
  · refine codeAny_of_tree ?_
    show wpAny _ X.A.in1.in1 (do checkBuiltinCall "bool.__new__" ⟨[.type "bool", .ref a], []⟩; again (.builtin "bool.__new__" ⟨[.type "bool", .ref a], []⟩)) _ _ s
    refine wpAny_bind (wpAny_of_eq (PySem.F.newCall_bool_1 _) (wpAny_pure ⟨plainId_quiet (by decide +kernel) _, codeAny_builtin PySem.F.entry_bool_new ?_⟩))
    rw [Around.under_plainId (by decide +kernel) _]
    unfold Builtin.«bool.__new__»
    refine wpAny_bind (wpAny_pure ?_)
    refine wpAny_bind (wpAny_of_eq PySem.F.conv_sub_bool ?_)
    refine wpAny_bind (wpAny_pure ?_)
    show wpAny _ _ (truthy (.ref a) >>= fun b => ret (.bool b)) _ _ _
    refine wpAny_bind (wpAny_mono (PySem.W.truthy_K (Q := fun b s₁ => EP X pz τ Q (.bool b) s₁) hF Nv.ok.mod.kin J o.at_ o.fn (wpAny_mono hw (fun v s' q => ?_) fun _ _ z => z)) (fun r s₁ hr => wpAny_pure ⟨_, rfl, hr⟩) fun _ _ y => y)
    obtain ⟨v', H', I', rv, b, rfl, q⟩ := q
    cases rv
    exact ⟨.bl b, H', I', rfl, q⟩
  · rintro obj s₁ ⟨b, rfl, hq⟩
    exact ⟨rfl, PySem.F.args_object_init_2 _ _, object_init_meets PySem.F.called_bool.init.lookup PySem.F.called_bool.made (by decide) X.prog X.w X.A.in1 _ s₁ ⟨rfl, rfl, hq⟩⟩
/-- str(o) by the class's own __str__ -/
def rStrO (C : Addr) (sp : Sp) (E : XK) : List V → Hp → VK → Prop := fun xs H Q => ∃ a dx fs, xs = [.ref a] ∧ H a = some (.ins C dx fs) ∧ sp [.ref a] H (fun v H' => ∃ b : Str, v = .str b ∧ Q (.str b) H') E
theorem clStrO (F : FnOk X.prog X.w X.K X.mg X.base CX k f fd ps sp) (hr : Room (k + 2) X.A) (hb : Binds X.K fd ps []) (hx : Passes CX X E) (o : Own X.K C "__str__" f) : CallR X (.type "str") (rStrO C sp E) := by
  intro pz s τ H xs us Q Nv r h
  obtain ⟨a, dx, fs, rfl, atA, h⟩ := h
  cases r with
  | cons relX rr =>
  cases rr
  cases relX
  obtain ⟨od, J⟩ := inst_of Nv atA
  refine PySem.W.kso_call hr.in1.in1.units0 Nv.kIn J o.at_ o.fn (wpAny_mono (run_at (vs := [V.ref a]) F hr.in1.in1 rfl hb hx Nv (.cons rfl .nil) h) (fun v s' q => ?_) fun _ _ z => z)
  obtain ⟨v', H', I', rv, b, rfl, q⟩ := q
  obtain ⟨t, rfl⟩ := rv
  exact ⟨.str b, H', I', ⟨_, rfl⟩, q⟩
/-- o[i] = v by the class's own __setitem__ -/
def tSetO (C : Addr) (sp : Sp) (E : XK) : TSet := fun o i v H Q => ∃ a dx fs, o = .ref a ∧ H a = some (.ins C dx fs) ∧ sp [.ref a, i, v] H (fun _ H' => Q H') E
theorem setO (F : FnOk X.prog X.w X.K X.mg X.base CX k f fd ps sp) (hr : Room k X.A) (hb : Binds X.K fd ps []) (hx : Passes CX X E) (o : Own X.K C "__setitem__" f) (hq : PySem.W.noSeq X.K C = true) : PSet X (tSetO C sp E) := by
  intro pz s τ H ov i v ou iu u Q Nv ro ri rv h
  obtain ⟨a, dx, fs, rfl, atA, h⟩ := h
  cases ro
  obtain ⟨od, J⟩ := inst_of Nv atA
  obtain ⟨m, hF⟩ : ∃ m, Fr X.base X.env.locals s.heap m := Nv.fr
  refine PySem.W.ksp_setItem hF Nv.ok.mod.kin J hq o.at_ o.fn (wpAny_mono (run_at (vs := [V.ref a, i, v]) F hr rfl hb hx Nv (.cons rfl (.cons ri (.cons rv .nil))) h) (fun v s' q => ?_) fun _ _ z => z)
  obtain ⟨v', H', I', rv, q⟩ := q
  exact ⟨H', I', q⟩
/-- o += v by the class's own __iadd__ -/
def tIaddO (C : Addr) (sp : Sp) (E : XK) : TIp := fun o v H Q => ∃ a dx fs, o = .ref a ∧ H a = some (.ins C dx fs) ∧ sp [.ref a, v] H (fun r H' => (∃ b, r = .ref b) ∧ Q r H') E
theorem iaddO (F : FnOk X.prog X.w X.K X.mg X.base CX k f fd ps sp) (hr : Room k X.A) (hb : Binds X.K fd ps []) (hx : Passes CX X E) (o : Own X.K C "__iadd__" f) (hc : PySem.W.selfFirst X.K C = true) : PIp X .Add (tIaddO C sp E) := by
  intro pz s τ H x y v u Q Nv ro rv h
  obtain ⟨a, dx, fs, rfl, atA, h⟩ := h
  cases ro
  obtain ⟨od, J⟩ := inst_of Nv atA
  obtain ⟨m, hF⟩ : ∃ m, Fr X.base X.env.locals s.heap m := Nv.fr
  refine PySem.W.ksp_inplace (op := .Add) hF Nv.ok.mod.kin J hc o.at_ o.fn (wpAny_mono (run_at (vs := [V.ref a, y]) F hr rfl hb hx Nv (.cons rfl (.cons rv .nil)) h) (fun v s' q => ?_) fun _ _ z => z)
  obtain ⟨v', H', I', rv, ⟨b, rfl⟩, q⟩ := q
  cases rv
  exact ⟨.ref b, H', I', rfl, q⟩
/-- o.f = v as one of several targets -/
def gAt (K : PySem.W.Frag) (ta : TE) (f : Str) : TG := fun y τ H Q => ta τ H fun x H2 => ∃ a C dx fs, x = .ref a ∧ H2 a = some (.ins C dx fs) ∧ Cls K C ∧ NoAttr K C f ∧ fs.length < 1000 ∧ Q τ (upd H2 a (.ins C dx (putF f y fs)))
theorem pg_at {o : Expr} {f : Str} {ta : TE} {pos : Pos} (ha : PE X o ta) : PG X (.Attribute o f pos) (gAt X.K ta f) := by
  refine ⟨fun pz s τ H v u Q Nv r h => ?_⟩
  rw [assign_Attribute]
  refine wpAny_bind (wpAny_holding (thn (ha.run pz s τ H _ Nv h) fun ov sB ⟨x, H2, Nv2, relX, a, C, dx, fs, eX, atA, c, n, l, y2⟩ => ?_))
  subst eX
  obtain rfl : ov = Value.ref a := relX
  refine wpAny_bind (wpAny_standAt (wpAny_bind (wpAny_holding (setattr_ok Nv2 atA c n l r fun s3 I3 => ?_))))
  exact wpAny_release ⟨τ, _, I3, y2⟩
end
end TB
namespace TB
open PySem PySem.Spec PyProof.Rows L2
section
variable {X : Cx} {K : PySem.W.Frag} {o value : Expr} {f : Str} {pos pos' : Pos} {ta tv : TE}
theorem peFld (hK : X.K = K) (he : PE X o ta) (hb : attributeBase o f X.env (eval o X.env) = eval o X.env := by rfl) : PE X (.Attribute o f pos) (tFld K ta f) := hK ▸ pe_fld he hb
theorem peCon (hK : X.K = K) (he : PE X o ta) (hb : attributeBase o f X.env (eval o X.env) = eval o X.env := by rfl) : PE X (.Attribute o f pos) (tCon K ta f) := hK ▸ pe_con he hb
theorem psFld (hK : X.K = K) (ha : PE X o ta) (hv : PE X value tv) (hs : swapsWith value (some (.Attribute o f pos')) pos.line X.env = pure false := by rfl) : PS X (.Assign [.Attribute o f pos'] value pos) (sFld K ta tv f) := hK ▸ ps_fld ha hv hs
theorem pgAt (hK : X.K = K) (ha : PE X o ta) : PG X (.Attribute o f pos) (gAt K ta f) := hK ▸ pg_at ha
end
end TB
namespace TB
open PySem PySem.Spec PyProof.Rows L2 StX
section
variable {X : Cx} {CX : CXT} {k i : Nat} {f C : Addr} {fd : FuncData} {ps : List Str} {sp : Sp} {E : XK} {x m : Str} {p pos apos : Pos} {e o : Expr} {ez : List Expr} {ta : TE} {t : TA}
/-- x(e, .., *y), x a name of the def that holds a function -/
theorem peCallLS (F : FnR X.prog X.w X.K X.mg X.base CX k f sp) (hr : Room k X.A) (hN : X.N[i]? = some x) (hv : Vis X.env.scope x) (hk : PySem.W.keepIn X.K (.ref f) = true) (hx : Passes CX X E) (ha : PA X (e :: ez) t)
    (hdb : (x == ("__debug__" : Str)) = false := by decide) (hcd : (x == ("__classdict__" : Str)) = false := by decide)
    (he : starEach (e :: ez) X.env = (false, eval e X.env) :: starEach ez X.env := by rfl) (hst : (backTo pos (starEach ez X.env)).any (·.1) = true := by rfl) : PE X (.Call (.Name x p) (e :: ez) [] pos) (tCallL i f sp [] E t) := by
  refine ⟨fun pz s τ H Q Nv h => ?_⟩
  obtain ⟨hs, ht⟩ := h
  refine wpAny_Call_Name_kw (thn ((pe_var (pos := p) hN hv hdb hcd).run pz s τ H (fun v H1 => v = .ref f ∧ H1 = H) Nv ⟨.ref f, hs, rfl, rfl⟩) fun u sA ⟨v, H1, Nv1, rr1, y1⟩ => ?_)
  obtain ⟨rfl, rfl⟩ := y1
  cases rr1
  refine PySem.W.callWith_S2 (h₀ := X.base) Nv.ok.mod.kin hk (thn (ha.run pos pz sA τ _ _ Nv1 ht) fun us sB ⟨vs, H2, Nv2, r, q⟩ => ⟨Nv2.kIn, ?_⟩) he hst
  replace q : sp (vs ++ []) H2 Q E := q
  rw [List.append_nil] at q
  exact wpAny_call (run_fnR F hr hx Nv2 r q)
/-- o.m(e, ..), m promised by its values -/
theorem peMethR {pl : Sem Bool} (he : PE X o ta) (c : Cls X.K C) (hm : Meth X.K C m f) (F : FnR X.prog X.w X.K X.mg X.base CX k f sp) (hr : Room k X.A) (hx : Passes CX X E) (ha : PA X (e :: ez) t)
    (hst : starEach (e :: ez) X.env = (false, eval e X.env) :: starEach ez X.env := by rfl) (hpl : (backTo pos (starEach ez X.env)).any (·.1) = false := by rfl)
    (ht : eval (.Call (.Attribute o m apos) (e :: ez) [] pos) X.env = (do
      let ov ← eval o X.env
      standAt apos.atName
      let (f, first) ← holding [ov] (getMethod ov m pl)
      callWith pos f first (backTo pos (starEach (e :: ez) X.env)) (backToKw pos (keywordEach [] X.env))) := by rfl) :
    PE X (.Call (.Attribute o m apos) (e :: ez) [] pos) (tMeth C m sp [] E ta t) := by
  refine ⟨fun pz s τ H Q Nv h => ?_⟩
  refine PySem.W.methodCall_KW (pl := pl) (thn (he.run pz s τ H _ Nv h) fun u sA ⟨x, H1, Nv1, relX, a, dx, fs, eX, atA, l, q⟩ => ?_) ht
  subst eX
  obtain rfl : u = Value.ref a := relX
  refine getmeth_ok Nv1 atA c hm l ?_
  refine PySem.W.callWith_K (first := [.ref a]) (h₀ := X.base) Nv.ok.mod.kin hm.kp (thn (ha.run pos pz sA τ H1 _ Nv1 q) fun us sB ⟨vs, H2, Nv2, r, y2⟩ => ⟨Nv2.kIn, ?_⟩) hst hpl
  replace y2 : sp (.ref a :: (vs ++ [])) H2 Q E := y2
  rw [List.append_nil] at y2
  exact wpAny_call (run_fnR (us := .ref a :: us) (vs := .ref a :: vs) F hr hx Nv2 (.cons rfl r) y2)
end
end TB
namespace TB
open PySem PySem.Spec PyProof.Rows L2 StX
section
variable {X : Cx} {CX : CXT} {k n : Nat} {f C : Addr} {fd : FuncData} {ps ks : List Str} {sp : Sp} {E : L2.St → XK} {m : Str} {pos apos : Pos} {e o : Expr} {ez : List Expr} {kws : List Keyword} {ta : TE} {t tk : TA} {g : List Value → List Value → List Value} {gV : List V → List V → List V}
theorem Passes.at {X : Cx} {CX : CXT} {E : XK} (h : Passes CX X E) (τ : L2.St) : PassesAt CX X τ E := fun pz H s e s' Nv c => h pz τ H s e s' Nv c
theorem run_kw {pz : List (Addr × Obj)} {τ : L2.St} {H : Hp} {s : Shared} {Q : VK} {us ws : List Value} {vs zs : List V} (F : FnOk X.prog X.w X.K X.mg X.base CX k f fd ps sp) (hr : Room k X.A) (hb : KBn X.K fd ps n ks g gV) (hx : PassesAt CX X τ (E τ))
    (Nv : Inv X pz τ H s) (r : Vals vs us) (rz : Vals zs ws) (l1 : vs.length = n) (l2 : zs.length = ks.length) (h : sp (gV vs zs) H Q (E τ)) : wpAny (model X.prog X.w) X.A (call (.ref f) us (ks.zip ws)) (EP X pz τ Q) X.xe s := by
  have r2 := hb.rel r rz
  refine wpAny_call (codeAny_mono (F.run X.A X.stack s H ⟨us, ks.zip ws⟩ (g us ws) (gV vs zs) Q (E τ) hr Nv.env0 (hb.to s us ws Nv.kIn (r.length.symm.trans l1) (rz.length.symm.trans l2)) r2 h) fun y s' hq => ?_)
  cases y with
  | error e => exact hx pz H s e s' Nv hq
  | ok fl =>
    cases fl with
    | ret u => exact Nv.after hq
    | next => exact False.elim hq
    | brk => exact False.elim hq
    | cont => exact False.elim hq
def tMethN (C : Addr) (m : Str) (n l : Nat) (sp : Sp) (gV : List V → List V → List V) (E : L2.St → XK) (ta : TE) (t tk : TA) : TE := fun τ H Q => ta τ H fun x H1 => ∃ a dx fs, x = .ref a ∧ H1 a = some (.ins C dx fs) ∧ fs.lookup m = none ∧
  t τ H1 fun vs H2 => tk τ H2 fun zs H3 => (x :: vs).length = n ∧ zs.length = l ∧ sp (gV (x :: vs) zs) H3 Q (E τ)
/-- o.m(e, .., k = v) -/
theorem peMethN {pl : Sem Bool} (he : PE X o ta) (c : Cls X.K C) (hm : Meth X.K C m f) (F : FnOk X.prog X.w X.K X.mg X.base CX k f fd ps sp) (hr : Room k X.A) (hb : KBn X.K fd ps n ks g gV) (hx : ∀ τ, PassesAt CX X τ (E τ)) (ha : PA X (e :: ez) t)
    (hkw : PK X kws tk) (hall : (backToKw pos (keywordEach kws X.env)).all (·.1.isSome) = true := by rfl) (hks : (backToKw pos (keywordEach kws X.env)).filterMap (·.1) = ks := by rfl)
    (hst : starEach (e :: ez) X.env = (false, eval e X.env) :: starEach ez X.env := by rfl)
    (hpl : ((backTo pos (starEach (e :: ez) X.env)).any (·.1) || (backToKw pos (keywordEach kws X.env)).any (·.1.isNone)) = false := by rfl)
    (ht : eval (.Call (.Attribute o m apos) (e :: ez) kws pos) X.env = (do
      let ov ← eval o X.env
      standAt apos.atName
      let (f, first) ← holding [ov] (getMethod ov m pl)
      callWith pos f first (backTo pos (starEach (e :: ez) X.env)) (backToKw pos (keywordEach kws X.env))) := by rfl) :
    PE X (.Call (.Attribute o m apos) (e :: ez) kws pos) (tMethN C m n ks.length sp gV E ta t tk) := by
  refine ⟨fun pz s τ H Q Nv h => ?_⟩
  refine PySem.W.methodCall_KW (pl := pl) (thn (he.run pz s τ H _ Nv h) fun u sA ⟨x, H1, Nv1, relX, a, dx, fs, eX, atA, l, q⟩ => ?_) ht
  subst eX
  obtain rfl : u = Value.ref a := relX
  refine getmeth_ok Nv1 atA c hm l ?_
  refine PySem.W.callWith_KW (first := [.ref a]) (h₀ := X.base) Nv.ok.mod.kin hm.kp hall (thn (ha.run pos pz sA τ H1 _ Nv1 q) fun us sB ⟨vs, H2, Nv2, r, y2⟩ => ?_) hpl hst
  refine thn (hkw.run pos pz sB τ H2 _ Nv2 y2) fun ws s3 ⟨zs, H3, I3, rz, l1, l2, q3⟩ => ⟨I3.kIn, ?_⟩
  rw [hks]
  exact run_kw (us := .ref a :: us) (vs := .ref a :: vs) F hr hb (hx τ) I3 (.cons rfl r) rz l1 l2 q3
/-- o.m(k = v) -/
theorem peMethN0 {pl : Sem Bool} (he : PE X o ta) (c : Cls X.K C) (hm : Meth X.K C m f) (F : FnOk X.prog X.w X.K X.mg X.base CX k f fd ps sp) (hr : Room k X.A) (hb : KBn X.K fd ps n ks g gV) (hx : ∀ τ, PassesAt CX X τ (E τ))
    (hkw : PK X kws tk) (hall : (backToKw pos (keywordEach kws X.env)).all (·.1.isSome) = true := by rfl) (hks : (backToKw pos (keywordEach kws X.env)).filterMap (·.1) = ks := by rfl)
    (hpl : ((backTo pos (starEach [] X.env)).any (·.1) || (backToKw pos (keywordEach kws X.env)).any (·.1.isNone)) = false := by rfl)
    (ht : eval (.Call (.Attribute o m apos) [] kws pos) X.env = (do
      let ov ← eval o X.env
      standAt apos.atName
      let (f, first) ← holding [ov] (getMethod ov m pl)
      callWith pos f first (backTo pos (starEach [] X.env)) (backToKw pos (keywordEach kws X.env))) := by rfl) :
    PE X (.Call (.Attribute o m apos) [] kws pos) (tMethN C m n ks.length sp gV E ta tNil tk) := by
  refine ⟨fun pz s τ H Q Nv h => ?_⟩
  refine PySem.W.methodCall_KW (pl := pl) (thn (he.run pz s τ H _ Nv h) fun u sA ⟨x, H1, Nv1, relX, a, dx, fs, eX, atA, l, q⟩ => ?_) ht
  subst eX
  obtain rfl : u = Value.ref a := relX
  refine getmeth_ok Nv1 atA c hm l ?_
  refine PySem.W.callWith_KW0 (first := [.ref a]) (h₀ := X.base) Nv.ok.mod.kin hm.kp hall ?_ hpl
  refine thn (hkw.run pos pz sA τ H1 _ Nv1 q) fun ws s3 ⟨zs, H3, I3, rz, l1, l2, q3⟩ => ⟨I3.kIn, ?_⟩
  rw [hks]
  exact run_kw (us := [.ref a]) (vs := [.ref a]) F hr hb (hx τ) I3 (.cons rfl .nil) rz l1 l2 q3
end
end TB
namespace TB
open PySem PySem.Spec PyProof.Rows L2 NdefX
/-- the object at f is the function fd -/
abbrev FnQ (f : Addr) (fd : FuncData) : HO := .ext fun h => h.get? f = some { cls := .type "function", data := .func fd }
theorem fnq_at {X : Cx} {pz : List (Addr × Obj)} {τ : L2.St} {H : Hp} {s : Shared} {f : Addr} {fd : FuncData} (Nv : Inv X pz τ H s) (e : H f = some (FnQ f fd)) : PySem.W.FnAt f s.heap := ⟨_, _, _, _, (Nv.hok f _ e).1⟩
section
variable {X : Cx} {CX : CXT} {k i : Nat} {f : Addr} {F : FuncData} {sp : Sp} {E : XK} {x : Str} {e : Expr} {ez : List Expr} {t : TA} {p pos : Pos}
/-- g(e, ..), g a name that holds a function made within a def -/
def tCallQ (i : Nat) (f : Addr) (F : FuncData) (sp : Sp) (E : XK) (t : TA) : TE := fun τ H Q => τ[i]? = some (some (.ref f)) ∧ H f = some (FnQ f F) ∧ t τ H fun vs H1 => H1 f = some (FnQ f F) ∧ sp vs H1 Q E
theorem peCallQ (G : FnR X.prog X.w X.K X.mg X.base CX k f sp) (hr : Room k X.A) (hx : Passes CX X E) (hN : X.N[i]? = some x) (hv : Vis X.env.scope x) (ha : PA X (e :: ez) t)
    (hd : (x == ("__debug__" : Str)) = false := by decide) (hcd : (x == ("__classdict__" : Str)) = false := by decide)
    (he : starEach (e :: ez) X.env = (false, eval e X.env) :: starEach ez X.env := by rfl) (hpl : (backTo pos (starEach ez X.env)).any (·.1) = false := by rfl) : PE X (.Call (.Name x p) (e :: ez) [] pos) (tCallQ i f F sp E t) := by
  refine ⟨fun pz s τ H Q Nv h => ?_⟩
  obtain ⟨hs, hf, ht⟩ := h
  refine wpAny_Call_Name_kw (thn ((pe_var (pos := p) hN hv hd hcd).run pz s τ H (fun v H1 => v = .ref f ∧ H1 = H) Nv ⟨.ref f, hs, rfl, rfl⟩) fun u sA ⟨v, H1, Nv1, rr1, y1⟩ => ?_)
  obtain ⟨ev, eH⟩ := y1
  subst ev
  rw [eH] at Nv1
  obtain rfl : u = Value.ref f := rr1
  refine PySem.W.callWith_F (first := []) (fnq_at Nv1 hf) (thn (ha.run pos pz sA τ H _ Nv1 ht) fun us sB ⟨vs, H2, Nv2, r, h1, q⟩ => ⟨fnq_at Nv2 h1, ?_⟩) he hpl
  exact wpAny_call (run_fnR G hr hx Nv2 r q)
end
end TB
namespace TB
open PySem PySem.Spec PyProof.Rows L2
section
variable {P : Program} {w : World} {K : PySem.W.Frag} {mg : Str → Option Value} {base : Heap}

abbrev Pg := Pair × List Int
structure Kl (K : PySem.W.Frag) (fu : Bool) : Prop where
  cl : Cls K (kC K fu)
  aW : NoAttr K (kC K fu) "word"
  aB : NoAttr K (kC K fu) "is_busy"
  aP : NoAttr K (kC K fu) "pages"
  aL : NoAttr K (kC K fu) "look"
  so : ∃ u, Con K (kC K fu) "SORT" (.str (kS fu)) u
  m_stand : Meth K (kC K fu) "stand" (He.ma K (He.ga K "Yard") "stand")
  m_require_free : Meth K (kC K fu) "require_free" (He.ma K (He.ga K "Yard") "require_free")
  m_tell : Meth K (kC K fu) "tell" (He.ma K (He.ga K "Yard") "tell")
  m_do : Meth K (kC K fu) "do" (He.ma K (He.ga K "Yard") "do")
  m_edit : Meth K (kC K fu) "edit" (He.ma K (He.ga K "Yard") "edit")
  m_side : Meth K (kC K fu) "side" (He.ma K (He.ga K "Yard") "side")
  m_brick : Meth K (kC K fu) "brick" (He.ma K (He.ga K "Yard") "brick")
  m_swap : Meth K (kC K fu) "swap" (He.ma K (He.ga K "Yard") "swap")
  m_turn : Meth K (kC K fu) "turn" (He.ma K (He.ga K "Yard") "turn")
  m_undo : Meth K (kC K fu) "undo" (He.ma K (He.ga K "Yard") "undo")
  m_attempt : Meth K (kC K fu) "attempt" (He.ma K (He.ga K "Yard") "attempt")
  m_do_all : Meth K (kC K fu) "do_all" (He.ma K (He.ga K "Yard") "do_all")
  m_state_at : Meth K (kC K fu) "state_at" (He.ma K (He.ga K "Yard") "state_at")
  m_each_version : Meth K (kC K fu) "each_version" (He.ma K (He.ga K "Yard") "each_version")
  m_copy : Meth K (kC K fu) "copy" (He.ma K (He.ga K "Yard") "copy")
  p_pair : ∃ p, PropOf K (kC K fu) "pair" p (pgA K "pair")
  p_box : ∃ p, PropOf K (kC K fu) "box" p (pgA K "box")
  p_version : ∃ p, PropOf K (kC K fu) "version" p (pgA K "version")
  p_news : ∃ p, PropOf K (kC K fu) "news" p (pgA K "news")
  p_paper : ∃ p, PropOf K (kC K fu) "paper" p (pgA K "paper")
  o_setitem : Own K (kC K fu) "__setitem__" (He.ma K (He.ga K "Yard") "__setitem__")
  o_iadd : Own K (kC K fu) "__iadd__" (He.ma K (He.ga K "Yard") "__iadd__")
  o_len : Own K (kC K fu) "__len__" (He.ma K (He.ga K "Yard") "__len__")
  o_bool : Own K (kC K fu) "__bool__" (He.ma K (He.ga K "Yard") "__bool__")
  o_str : Own K (kC K fu) "__str__" (He.ma K (He.ga K "Yard") "__str__")
  o_eq : Own K (kC K fu) "__eq__" (He.ma K (He.ga K "Yard") "__eq__")
  nq : PySem.W.noSeq K (kC K fu) = true
  sf : PySem.W.selfFirst K (kC K fu) = true
  tc : PySem.W.findIn K (.ref (kC K fu)) "__class__" = some (some (.builtin "object.__class__"))
  mo : PySem.W.mroIn K (kC K fu) (.type "object") = some true
  mj : Meth K (kC K fu) "judge" (He.ma K (kC K fu) "judge")
  mf : Meth K (kC K fu) "fresh" (He.ma K (kC K fu) "fresh")
  mi : Mk K (kC K fu) (He.ma K (kC K fu) "__init__")
structure Yrd (K : PySem.W.Frag) (mg : Str → Option Value) : Prop where
  kl : ∀ fu, Kl K fu
  gY : mg "Yard" = some (.ref (He.ga K "Yard"))
  gF : mg "FullYard" = some (.ref (He.ga K "FullYard"))
  ki : ∀ fu, PySem.W.kitOne K (.ref (kC K fu)) (.ref (He.ga K "Yard")) = some true
  n1 : PySem.W.specialIn K (.builtin "object.__class__") "__get__" = some (some (.builtin "getset_descriptor.__get__"))
  n2 : PySem.W.takesIn K (.builtin "object.__class__") = some true
  gB : mg "Busy" = some (.ref (He.ga K "Busy"))
  xB : PySem.W.excIn K (He.ga K "Busy") [.type "ValueError", .type "Exception", .type "BaseException", .type "object"] "ValueError.__new__" = true
  kB : PySem.W.keepIn K (.ref (He.ga K "Busy")) = true
  bB : PySem.W.subIn K (.ref (He.ga K "Busy")) (.type "BaseException") = some true
  tB : PySem.W.typeIn K (.ref (He.ga K "Busy")) = some (.type "type")
def yF (b : Bool) (pa la : Addr) : List (Str × V) := [("word", .str "same"), ("is_busy", .bl b), ("pages", .ref pa), ("look", .ref la)]
def lastP (gs : List Pg) : Pg := gs.getLastD (([], []), [])
def lookD (fu : Bool) (gs : List Pg) : PyData := .tuple [.str (kS fu), pageD (lastP gs)]
/-- a yard at y: its class, whether it is busy, its pages -/
def Yd (K : PySem.W.Frag) (H : Hp) (y : Addr) (fu b : Bool) (gs : List Pg) : Prop := ∃ dx pa la, H y = some (.ins (kC K fu) dx (yF b pa la)) ∧ Im K H (.ref pa) (.tuple (gs.map pageD)) ∧ Im K H (.ref la) (lookD fu gs)
theorem Yd.kp {H H' : Hp} {y : Addr} {fu b : Bool} {gs : List Pg} {l : List Addr} (k : Kp l H H') (hy : y ∉ l) (h : Yd K H y fu b gs) : Yd K H' y fu b gs := by
  obtain ⟨dx, pa, la, h1, h2, h3⟩ := h
  exact ⟨dx, pa, la, k.keep y _ h1 hy, h2.kp k, h3.kp k⟩
theorem Yd.up {H H' : Hp} {y : Addr} {fu b : Bool} {gs : List Pg} (h : Yd K H y fu b gs) (k : Kp [] H H') : Yd K H' y fu b gs := h.kp k (fun q => nomatch q)
/-- what a yard's pages bear -/
structure Gd (fu : Bool) (n : Nat) (f : Bool) (gs : List Pg) : Prop where
  ne : gs ≠ []
  bx : ∀ g ∈ gs, Bx g.1.1 g.1.2 g.2 ∧ g.2.length = n ∧ fillB g.1.1 g.1.2 g.2 = f
  fu : fu = true → f = true
  le : gs.length ≤ 20
theorem last_eq {gs : List Pg} (h : gs ≠ []) : lastP gs = gs.getLast h := by
  unfold lastP
  rw [List.getLastD_eq_getLast?, List.getLast?_eq_some_getLast h]
  rfl
theorem last_mem {gs : List Pg} (h : gs ≠ []) : lastP gs ∈ gs := by
  rw [last_eq h]
  exact List.getLast_mem h
theorem last_at {gs : List Pg} (h : gs ≠ []) : atI (gs.map pageD) (-1) = some (pageD (lastP gs)) := by
  rw [last_eq h]
  have e : gs.map pageD = gs.dropLast.map pageD ++ [pageD (gs.getLast h)] := by
    conv => lhs; rw [← List.dropLast_concat_getLast h]
    rw [List.map_append]; rfl
  rw [e]
  exact atI_last _ _
theorem Gd.bl {fu f : Bool} {n : Nat} {gs : List Pg} (h : Gd fu n f gs) : Bx (lastP gs).1.1 (lastP gs).1.2 (lastP gs).2 := (h.bx _ (last_mem h.ne)).1
theorem Gd.fl {fu f : Bool} {n : Nat} {gs : List Pg} (h : Gd fu n f gs) : fillB (lastP gs).1.1 (lastP gs).1.2 (lastP gs).2 = f := (h.bx _ (last_mem h.ne)).2.2
theorem Gd.nl {fu f : Bool} {n : Nat} {gs : List Pg} (h : Gd fu n f gs) : (lastP gs).2.length = n := (h.bx _ (last_mem h.ne)).2.1
section
variable {σ : L2.St} {H : Hp} {ta : TE} {y : Addr} {fu b : Bool} {gs : List Pg}
theorem dPages (Y : Yrd K mg) {i : Nat} (hv : σ[i]? = some (some (.ref y))) (h : Yd K H y fu b gs) : DE K (tFld K (tVar i) "pages") σ H (.tuple (gs.map pageD)) := fun H1 k Q q => by
  obtain ⟨dx, pa, la, h1, h2, h3⟩ := h
  exact ⟨_, hv, y, kC K fu, dx, _, .ref pa, rfl, k.get h1, (Y.kl fu).cl, (Y.kl fu).aP, rfl, q _ H1 .refl (h2.kp k)⟩
theorem dLook (Y : Yrd K mg) {i : Nat} (hv : σ[i]? = some (some (.ref y))) (h : Yd K H y fu b gs) : DE K (tFld K (tVar i) "look") σ H (lookD fu gs) := fun H1 k Q q => by
  obtain ⟨dx, pa, la, h1, h2, h3⟩ := h
  exact ⟨_, hv, y, kC K fu, dx, _, .ref la, rfl, k.get h1, (Y.kl fu).cl, (Y.kl fu).aL, rfl, q _ H1 .refl (h3.kp k)⟩
theorem dWord (Y : Yrd K mg) {i : Nat} (hv : σ[i]? = some (some (.ref y))) (h : Yd K H y fu b gs) : DE K (tFld K (tVar i) "word") σ H (.str "same") := fun H1 k Q q => by
  obtain ⟨dx, pa, la, h1, h2, h3⟩ := h
  exact ⟨_, hv, y, kC K fu, dx, _, .str "same", rfl, k.get h1, (Y.kl fu).cl, (Y.kl fu).aW, rfl, q _ H1 .refl (.str _)⟩
theorem dBusy (Y : Yrd K mg) {i : Nat} (hv : σ[i]? = some (some (.ref y))) (h : Yd K H y fu b gs) : DE K (tFld K (tVar i) "is_busy") σ H (.bool b) := fun H1 k Q q => by
  obtain ⟨dx, pa, la, h1, h2, h3⟩ := h
  exact ⟨_, hv, y, kC K fu, dx, _, .bl b, rfl, k.get h1, (Y.kl fu).cl, (Y.kl fu).aB, rfl, q _ H1 .refl (.bl _)⟩
/-- a property's value, read off a yard -/
theorem dProp {i : Nat} {sp : Sp} {E : XK} {d : PyData} (hv : σ[i]? = some (some (.ref y))) (h : Yd K H y fu b gs) (hs : ∀ H1, Kp [] H H1 → ∀ Q, Ret K H1 Q d → sp [.ref y] H1 Q E) : DE K (tProp (kC K fu) sp [] E (tVar i)) σ H d := fun H1 k Q q => by
  obtain ⟨dx, pa, la, h1, h2, h3⟩ := h
  exact ⟨_, hv, y, dx, _, rfl, k.get h1, hs H1 k Q q⟩
/-- a method's value that changes nothing -/
theorem dMeth {i : Nat} {m : Str} {sp : Sp} {E : XK} {d : PyData} {ta : TA} {ds : List PyData} (hv : σ[i]? = some (some (.ref y))) (h : Yd K H y fu b gs) (ha : DA K ta σ H ds) (hm : ∀ pa la, (yF b pa la).lookup m = none) (hs : ∀ vs H1, Kp [] H H1 → ImAll K H1 vs ds → ∀ Q, Ret K H1 Q d → sp (.ref y :: (vs ++ [])) H1 Q E) : DE K (tMeth (kC K fu) m sp [] E (tVar i) ta) σ H d := fun H1 k Q q => by
  obtain ⟨dx, pa, la, h1, h2, h3⟩ := h
  exact ⟨_, hv, y, dx, _, rfl, k.get h1, hm pa la, ha H1 k _ fun vs H2 k2 hvs => hs vs H2 (k.trans k2) hvs Q fun v H3 k3 hd => q v H3 (k2.trans k3) hd⟩
end
end
end TB
namespace TB
open PySem PySem.Spec PyProof.Rows L2
section
variable {P : Program} {w : World} {K : PySem.W.Frag} {mg : Str → Option Value} {base : Heap}
abbrev nl_Y_pair : List Str := ["self"]
theorem sc_Y_pair : FnScope nl_Y_pair ["self"] (defScope s_Y_pair) := ⟨rfl, rfl, rfl, by decide +kernel, rfl, by decide +kernel, by decide +kernel⟩
def sp_Y_pair (K : PySem.W.Frag) : Sp := fun vs H Q _ => ∃ (y : Addr) (fu b : Bool) (gs : List Pg), vs = [.ref y] ∧ Yd K H y fu b gs ∧  gs ≠ [] ∧ Ret K H Q (pairD (lastP gs).1)
theorem ok_Y_pair (T : Txt K mg) (B : Tab K w mg) (Y : Yrd K mg) : FnOk P w K mg base CX0 1 (pgA K "pair") (fdA K (pgA K "pair")) ["self"] (sp_Y_pair K) := by
  refine T.f_Y_pair.ok sc_Y_pair (fun vs H Q E h => ?_) (fun cdv A outer s H vs Q E hr h => ?_)
  · obtain ⟨y, fu, b, gs, rfl, hy, hn, k⟩ := h
    rfl
  · have nd := sc_Y_pair.nd
    have hu := hr.units
    obtain ⟨y, fu, b, gs, rfl, hy, hn, k⟩ := h
    refine ⟨_, PSs.nox (pss_one (ps_ret (pe_ix (ixT (K := K) rfl) (pe_ix (ixT (K := K) rfl) (peFld (K := K) rfl (pv 0)) (pe_un un_neg pe_int) (fun _ _ => rfl)) pe_int (fun _ _ => rfl)))), ?_⟩
    exact sret (K := K) (d := pairD (lastP gs).1) (dix (dix (dPages Y rfl hy) (dneg dint) (last_at hn)) dint at0) k

abbrev nl_Y_box : List Str := ["self"]
theorem sc_Y_box : FnScope nl_Y_box ["self"] (defScope s_Y_box) := ⟨rfl, rfl, rfl, by decide +kernel, rfl, by decide +kernel, by decide +kernel⟩
def sp_Y_box (K : PySem.W.Frag) : Sp := fun vs H Q _ => ∃ (y : Addr) (fu b : Bool) (gs : List Pg), vs = [.ref y] ∧ Yd K H y fu b gs ∧  gs ≠ [] ∧ Ret K H Q (tI (lastP gs).2)
theorem ok_Y_box (T : Txt K mg) (B : Tab K w mg) (Y : Yrd K mg) : FnOk P w K mg base CX0 1 (pgA K "box") (fdA K (pgA K "box")) ["self"] (sp_Y_box K) := by
  refine T.f_Y_box.ok sc_Y_box (fun vs H Q E h => ?_) (fun cdv A outer s H vs Q E hr h => ?_)
  · obtain ⟨y, fu, b, gs, rfl, hy, hn, k⟩ := h
    rfl
  · have nd := sc_Y_box.nd
    have hu := hr.units
    obtain ⟨y, fu, b, gs, rfl, hy, hn, k⟩ := h
    refine ⟨_, PSs.nox (pss_one (ps_ret (pe_ix (ixT (K := K) rfl) (pe_ix (ixT (K := K) rfl) (peFld (K := K) rfl (pv 0)) (pe_un un_neg pe_int) (fun _ _ => rfl)) pe_int (fun _ _ => rfl)))), ?_⟩
    exact sret (K := K) (d := tI (lastP gs).2) (dix (dix (dPages Y rfl hy) (dneg dint) (last_at hn)) dint at1) k

abbrev nl_Y_version : List Str := ["self"]
theorem sc_Y_version : FnScope nl_Y_version ["self"] (defScope s_Y_version) := ⟨rfl, rfl, rfl, by decide +kernel, rfl, by decide +kernel, by decide +kernel⟩
def sp_Y_version (K : PySem.W.Frag) : Sp := fun vs H Q _ => ∃ (y : Addr) (fu b : Bool) (gs : List Pg), vs = [.ref y] ∧ Yd K H y fu b gs ∧  RetV H Q (.int ((gs.length : Int) - 1))
theorem ok_Y_version (T : Txt K mg) (B : Tab K w mg) (Y : Yrd K mg) : FnOk P w K mg base CX0 1 (pgA K "version") (fdA K (pgA K "version")) ["self"] (sp_Y_version K) := by
  refine T.f_Y_version.ok sc_Y_version (fun vs H Q E h => ?_) (fun cdv A outer s H vs Q E hr h => ?_)
  · obtain ⟨y, fu, b, gs, rfl, hy, k⟩ := h
    rfl
  · have nd := sc_Y_version.nd
    have hu := hr.units
    obtain ⟨y, fu, b, gs, rfl, hy, k⟩ := h
    refine ⟨_, PSs.nox (pss_one (ps_ret (pe_op op_sub (pe_callB (clLen (K := K) rfl) (by rfl) T.n_len (by decide +kernel) (pa_cons (peFld (K := K) rfl (pv 0)) pa_nil)) pe_int))), ?_⟩
    exact sretV (K := K) (d := .int ((gs.length : Int) - 1)) (DE.is (dI0 (dlen (dPages Y rfl hy)) dint) (by simp)) rfl k

abbrev nl_Y_news : List Str := ["self"]
theorem sc_Y_news : FnScope nl_Y_news ["self"] (defScope s_Y_news) := ⟨rfl, rfl, rfl, by decide +kernel, rfl, by decide +kernel, by decide +kernel⟩
def sp_Y_news (K : PySem.W.Frag) : Sp := fun vs H Q _ => ∃ (y : Addr) (fu b : Bool) (gs : List Pg), vs = [.ref y] ∧ Yd K H y fu b gs ∧  RetV H Q (.str "same")
theorem ok_Y_news (T : Txt K mg) (B : Tab K w mg) (Y : Yrd K mg) : FnOk P w K mg base CX0 1 (pgA K "news") (fdA K (pgA K "news")) ["self"] (sp_Y_news K) := by
  refine T.f_Y_news.ok sc_Y_news (fun vs H Q E h => ?_) (fun cdv A outer s H vs Q E hr h => ?_)
  · obtain ⟨y, fu, b, gs, rfl, hy, k⟩ := h
    rfl
  · have nd := sc_Y_news.nd
    have hu := hr.units
    obtain ⟨y, fu, b, gs, rfl, hy, k⟩ := h
    refine ⟨_, PSs.nox (pss_one (ps_ret (peFld (K := K) rfl (pv 0)))), ?_⟩
    exact sretV (K := K) (d := .str "same") (dWord Y rfl hy) rfl k

end
end TB
namespace TB
open PySem PySem.Spec PyProof.Rows L2
section
variable {P : Program} {w : World} {K : PySem.W.Frag} {mg : Str → Option Value} {base : Heap}

theorem dPair (Y : Yrd K mg) {σ : L2.St} {H : Hp} {i : Nat} {y : Addr} {fu b : Bool} {gs : List Pg} {E : XK} (hv : σ[i]? = some (some (.ref y))) (h : Yd K H y fu b gs) (hn : gs ≠ []) : DE K (tProp (kC K fu) (sp_Y_pair K) [] E (tVar i)) σ H (pairD (lastP gs).1) :=
  dProp hv h fun H1 k Q q => ⟨y, fu, b, gs, rfl, h.up k, hn, q⟩
theorem dBox (Y : Yrd K mg) {σ : L2.St} {H : Hp} {i : Nat} {y : Addr} {fu b : Bool} {gs : List Pg} {E : XK} (hv : σ[i]? = some (some (.ref y))) (h : Yd K H y fu b gs) (hn : gs ≠ []) : DE K (tProp (kC K fu) (sp_Y_box K) [] E (tVar i)) σ H (tI (lastP gs).2) :=
  dProp hv h fun H1 k Q q => ⟨y, fu, b, gs, rfl, h.up k, hn, q⟩
theorem dVers (Y : Yrd K mg) {σ : L2.St} {H : Hp} {i : Nat} {y : Addr} {fu b : Bool} {gs : List Pg} {E : XK} (hv : σ[i]? = some (some (.ref y))) (h : Yd K H y fu b gs) : DE K (tProp (kC K fu) (sp_Y_version K) [] E (tVar i)) σ H (.int ((gs.length : Int) - 1)) :=
  dProp hv h fun H1 k Q q => ⟨y, fu, b, gs, rfl, h.up k, fun H2 k2 => q _ H2 k2 (.int _)⟩
theorem dNews (Y : Yrd K mg) {σ : L2.St} {H : Hp} {i : Nat} {y : Addr} {fu b : Bool} {gs : List Pg} {E : XK} (hv : σ[i]? = some (some (.ref y))) (h : Yd K H y fu b gs) : DE K (tProp (kC K fu) (sp_Y_news K) [] E (tVar i)) σ H (.str "same") :=
  dProp hv h fun H1 k Q q => ⟨y, fu, b, gs, rfl, h.up k, fun H2 k2 => q _ H2 k2 (.str _)⟩
theorem sretC {σ : L2.St} {H : Hp} {sp : Sp} {E : XK} {ta : TA} {ds : List PyData} {D : Ends} (ha : DA K ta σ H ds) (hs : ∀ vs H1, Kp [] H H1 → ImAll K H1 vs ds → sp (vs ++ []) H1 D.rt E) : tRet (tCall sp [] E ta) D σ H := ha H .refl _ hs
inductive DJ (K : PySem.W.Frag) (σ : L2.St) (H : Hp) : List TE → List Str → Prop where
  | nil : DJ K σ H [] []
  | cons {t : TE} {y : Str} {ts : List TE} {ys : List Str} (h : DE K t σ H (.str y)) (r : DJ K σ H ts ys) : DJ K σ H (t :: ts) (y :: ys)
theorem DJ.run {σ : L2.St} {H : Hp} {ts : List TE} {ys : List Str} (h : DJ K σ H ts ys) : ∀ (acc : Str) (H1 : Hp) (Q : Str → Hp → Prop), Kp [] H H1 → acc.length + (ys.map (·.length)).sum ≤ 100000 → (∀ H2, Kp [] H1 H2 → Q (ys.foldl (· ++ ·) acc) H2) → tJs ts acc σ H1 Q := by
  induction h with
  | nil => exact fun acc H1 Q k z q => q H1 .refl
  | cons h r ih =>
    intro acc H1 Q k z q
    simp only [List.map_cons, List.sum_cons] at z
    refine h H1 k _ fun v H2 k2 hv => ?_
    obtain rfl := hv.strI
    refine ⟨_, rfl, by rw [len_app, sizeLine_eq]; omega, ih _ H2 Q (k.trans k2) (by rw [len_app]; omega) fun H3 k3 => q H3 (k2.trans k3)⟩
theorem djoined {σ : L2.St} {H : Hp} {ts : List TE} {ys : List Str} (h : DJ K σ H ts ys) (z : (ys.map (·.length)).sum ≤ 100000) : DE K (fun σ H Q => tJs ts Str.empty σ H fun out H1 => Q (.str out) H1) σ H (.str (ys.foldl (· ++ ·) Str.empty)) := fun H1 k Q q =>
  h.run _ H1 _ k (by have : Str.empty.length = 0 := rfl; omega) fun H2 k2 => q _ H2 k2 (.str _)
theorem dfmt {σ : L2.St} {H : Hp} {te : TE} {y : Str} (h : DE K te σ H (.str y)) (z : y.length ≤ 100000) : DE K (tFmt te) σ H (.str y) := fun H1 k Q q => h H1 k _ fun v H2 k2 hv => by
  obtain rfl := hv.strI
  exact .inl ⟨_, rfl, by rw [sizeLine_eq]; omega, q _ H2 k2 (.str _)⟩
/-- what str of a yard tells -/
def shT (g : Pg) (f : Bool) : Str := [kTx g.1.1 g.1.2, " in ", sTx g.2, ": ", if f then "filled" else "barred"].foldl (· ++ ·) Str.empty

abbrev nl_Y_paper : List Str := ["self"]
theorem sc_Y_paper : FnScope nl_Y_paper ["self"] (defScope s_Y_paper) := ⟨rfl, rfl, rfl, by decide +kernel, rfl, by decide +kernel, by decide +kernel⟩
def sp_Y_paper (K : PySem.W.Frag) : Sp := fun vs H Q _ => ∃ (y : Addr) (fu b f : Bool) (n : Nat) (gs : List Pg), vs = [.ref y] ∧ Yd K H y fu b gs ∧ Gd fu n f gs ∧  ∀ d, PaperP (lastP gs).1.1 (lastP gs).1.2 (lastP gs).2 d → Ret K H Q d
theorem ok_Y_paper (T : Txt K mg) (B : Tab K w mg) (Y : Yrd K mg) : FnOk P w K mg base CX0 5 (pgA K "paper") (fdA K (pgA K "paper")) ["self"] (sp_Y_paper K) := by
  refine T.f_Y_paper.ok sc_Y_paper (fun vs H Q E h => ?_) (fun cdv A outer s H vs Q E hr h => ?_)
  · obtain ⟨y, fu, b, f, n, gs, rfl, hy, hg, k⟩ := h
    rfl
  · have nd := sc_Y_paper.nd
    have hu := hr.units
    obtain ⟨y, fu, b, f, n, gs, rfl, hy, hg, k⟩ := h
    refine ⟨_, PSs.nox (pss_one (ps_ret (pe_call (ok_paper_papers T) (hr.mono (by decide)) (by rfl) T.g_paper_papers (T.f_paper_papers.kp) (T.b_paper_papers) .nil pass0 (pa_cons (pe_prop (pv 0) (Y.kl fu).cl (Y.kl fu).p_pair.choose_spec (ok_Y_pair (K := K) T B Y) (hr.mono (by decide)) T.b_Y_pair .nil pass0 (by rfl)) (pa_cons (pe_prop (pv 0) (Y.kl fu).cl (Y.kl fu).p_box.choose_spec (ok_Y_box (K := K) T B Y) (hr.mono (by decide)) T.b_Y_box .nil pass0 (by rfl)) pa_nil))))), ?_⟩
    refine sretC (ds := [pairD (lastP gs).1, tI (lastP gs).2]) (dacons (dPair Y rfl hy hg.ne) (dacons (dBox Y rfl hy hg.ne) danil)) fun vs H1 k1 hv => ?_
    obtain ⟨v1, v2, rfl, i1, i2⟩ := hv.inv2
    exact ⟨v1, v2, _, _, _, rfl, i1, i2, hg.bl, fun d hd v H2 k2 h2 => k d hd v H2 (k1.trans k2) h2⟩

abbrev nl_Y_bool : List Str := ["self"]
theorem sc_Y_bool : FnScope nl_Y_bool ["self"] (defScope s_Y_bool) := ⟨rfl, rfl, rfl, by decide +kernel, rfl, by decide +kernel, by decide +kernel⟩
def sp_Y_bool (K : PySem.W.Frag) : Sp := fun vs H Q _ => ∃ (y : Addr) (fu b f : Bool) (n : Nat) (gs : List Pg), vs = [.ref y] ∧ Yd K H y fu b gs ∧ Gd fu n f gs ∧  RetV H Q (.bl f)
theorem ok_Y_bool (T : Txt K mg) (B : Tab K w mg) (Y : Yrd K mg) : FnOk P w K mg base CX0 6 (He.ma K (He.ga K "Yard") "__bool__") (fdA K (He.ma K (He.ga K "Yard") "__bool__")) ["self"] (sp_Y_bool K) := by
  refine T.f_Y_bool.ok sc_Y_bool (fun vs H Q E h => ?_) (fun cdv A outer s H vs Q E hr h => ?_)
  · obtain ⟨y, fu, b, f, n, gs, rfl, hy, hg, k⟩ := h
    rfl
  · have nd := sc_Y_bool.nd
    have hu := hr.units
    obtain ⟨y, fu, b, f, n, gs, rfl, hy, hg, k⟩ := h
    refine ⟨_, PSs.nox (pss_one (ps_ret (pe_callTy call_bool1 (by rfl) T.n_bool (by decide +kernel) (pa_cons (pe_call (ok_is_filled T) (hr.mono (by decide)) (by rfl) T.g_is_filled (T.f_is_filled.kp) (T.b_is_filled) .nil pass0 (pa_cons (pe_prop (pv 0) (Y.kl fu).cl (Y.kl fu).p_pair.choose_spec (ok_Y_pair (K := K) T B Y) (hr.mono (by decide)) T.b_Y_pair .nil pass0 (by rfl)) (pa_cons (pe_prop (pv 0) (Y.kl fu).cl (Y.kl fu).p_box.choose_spec (ok_Y_box (K := K) T B Y) (hr.mono (by decide)) T.b_Y_box .nil pass0 (by rfl)) pa_nil))) pa_nil)))), ?_⟩
    refine sretV (K := K) (d := .bool f) (dcbool (dcall (ds := [pairD (lastP gs).1, tI (lastP gs).2]) (dacons (dPair Y rfl hy hg.ne) (dacons (dBox Y rfl hy hg.ne) danil)) fun vs H1 k1 hv Q1 q1 => ?_)) rfl k
    obtain ⟨v1, v2, rfl, i1, i2⟩ := hv.inv2
    refine ⟨v1, v2, _, _, _, rfl, i1, i2, hg.bl, fun d hd H2 k2 => ?_⟩
    rw [paper_fill hg.bl hd, hg.fl]
    exact q1 _ H2 k2 (.bl _)

abbrev nl_Y_len : List Str := ["self"]
theorem sc_Y_len : FnScope nl_Y_len ["self"] (defScope s_Y_len) := ⟨rfl, rfl, rfl, by decide +kernel, rfl, by decide +kernel, by decide +kernel⟩
def sp_Y_len (K : PySem.W.Frag) : Sp := fun vs H Q _ => ∃ (y : Addr) (fu b f : Bool) (n : Nat) (gs : List Pg), vs = [.ref y] ∧ Yd K H y fu b gs ∧ Gd fu n f gs ∧  RetV H Q (.int (n : Int))
theorem ok_Y_len (T : Txt K mg) (B : Tab K w mg) (Y : Yrd K mg) : FnOk P w K mg base CX0 3 (He.ma K (He.ga K "Yard") "__len__") (fdA K (He.ma K (He.ga K "Yard") "__len__")) ["self"] (sp_Y_len K) := by
  refine T.f_Y_len.ok sc_Y_len (fun vs H Q E h => ?_) (fun cdv A outer s H vs Q E hr h => ?_)
  · obtain ⟨y, fu, b, f, n, gs, rfl, hy, hg, k⟩ := h
    rfl
  · have nd := sc_Y_len.nd
    have hu := hr.units
    obtain ⟨y, fu, b, f, n, gs, rfl, hy, hg, k⟩ := h
    refine ⟨_, PSs.nox (pss_one (ps_ret (pe_callB (clLen (K := K) rfl) (by rfl) T.n_len (by decide +kernel) (pa_cons (pe_prop (pv 0) (Y.kl fu).cl (Y.kl fu).p_box.choose_spec (ok_Y_box (K := K) T B Y) (hr.mono (by decide)) T.b_Y_box .nil pass0 (by rfl)) pa_nil)))), ?_⟩
    exact sretV (K := K) (d := .int (n : Int)) (DE.is (dlen (ds := (lastP gs).2.map .int) (dBox Y rfl hy hg.ne)) (by rw [List.length_map, hg.nl])) rfl k


theorem dBoolY {σ : L2.St} {H : Hp} {y : Addr} {fu b f : Bool} {n : Nat} {gs : List Pg} {E : XK} {i : Nat} (hv : σ[i]? = some (some (.ref y))) (h : Yd K H y fu b gs) (hg : Gd fu n f gs) : DE K (tCB (rBoolO (kC K fu) (sp_Y_bool K) E) (tCons (tVar i) tNil)) σ H (.bool f) := fun H1 k Q q => by
  obtain ⟨dx, pa, la, h1, h2, h3⟩ := h
  exact ⟨_, hv, y, dx, _, rfl, k.get h1, y, fu, b, f, n, gs, rfl, Yd.up ⟨dx, pa, la, h1, h2, h3⟩ k, hg, fun H2 k2 => ⟨f, rfl, q _ H2 k2 (.bl _)⟩⟩
theorem dLenY {σ : L2.St} {H : Hp} {y : Addr} {fu b f : Bool} {n : Nat} {gs : List Pg} {E : XK} {i : Nat} (hv : σ[i]? = some (some (.ref y))) (h : Yd K H y fu b gs) (hg : Gd fu n f gs) : DE K (tCB (rLenO (kC K fu) (sp_Y_len K) E) (tCons (tVar i) tNil)) σ H (.int (n : Int)) := fun H1 k Q q => by
  have h0 := h
  obtain ⟨dx, pa, la, h1, h2, h3⟩ := h
  have hn := hg.nl
  have := hg.bl.l4
  exact ⟨_, hv, y, dx, _, rfl, k.get h1, y, fu, b, f, n, gs, rfl, h0.up k, hg, fun H2 k2 => ⟨n, rfl, by omega, by omega, q _ H2 k2 (.int _)⟩⟩

abbrev nl_Y_str : List Str := ["self"]
theorem sc_Y_str : FnScope nl_Y_str ["self"] (defScope s_Y_str) := ⟨rfl, rfl, rfl, by decide +kernel, rfl, by decide +kernel, by decide +kernel⟩
def sp_Y_str (K : PySem.W.Frag) : Sp := fun vs H Q _ => ∃ (y : Addr) (fu b f : Bool) (n : Nat) (gs : List Pg), vs = [.ref y] ∧ Yd K H y fu b gs ∧ Gd fu n f gs ∧  RetV H Q (.str (shT (lastP gs) f))
theorem ok_Y_str (T : Txt K mg) (B : Tab K w mg) (Y : Yrd K mg) : FnOk P w K mg base CX0 10 (He.ma K (He.ga K "Yard") "__str__") (fdA K (He.ma K (He.ga K "Yard") "__str__")) ["self"] (sp_Y_str K) := by
  refine T.f_Y_str.ok sc_Y_str (fun vs H Q E h => ?_) (fun cdv A outer s H vs Q E hr h => ?_)
  · obtain ⟨y, fu, b, f, n, gs, rfl, hy, hg, k⟩ := h
    rfl
  · have nd := sc_Y_str.nd
    have hu := hr.units
    obtain ⟨y, fu, b, f, n, gs, rfl, hy, hg, k⟩ := h
    refine ⟨_, PSs.nox (pss_one (ps_ret (pe_joined (.cons (pe_fmt (pe_call (ok_kinds_text T) (hr.mono (by decide)) (by rfl) T.g_kinds_text (T.f_kinds_text.kp) (T.b_kinds_text) .nil pass0 (pa_cons (pe_prop (pv 0) (Y.kl fu).cl (Y.kl fu).p_pair.choose_spec (ok_Y_pair (K := K) T B Y) (hr.mono (by decide)) T.b_Y_pair .nil pass0 (by rfl)) pa_nil))) (.cons pe_str (.cons (pe_fmt (pe_call (ok_sides_text T) (hr.mono (by decide)) (by rfl) T.g_sides_text (T.f_sides_text.kp) (T.b_sides_text) .nil pass0 (pa_cons (pe_prop (pv 0) (Y.kl fu).cl (Y.kl fu).p_box.choose_spec (ok_Y_box (K := K) T B Y) (hr.mono (by decide)) T.b_Y_box .nil pass0 (by rfl)) pa_nil))) (.cons pe_str (.cons (pe_fmt (pe_ifExp (pt_val (pe_callTy (clBoolO (ok_Y_bool (K := K) T B Y) (hr.mono (by decide)) T.b_Y_bool pass0 (Y.kl fu).o_bool) (by rfl) T.n_bool (by decide +kernel) (pa_cons (pv 0) pa_nil))) (pe_glob (v := .str "filled") rfl T.c_FILLED.choose_spec ⟨_, rfl⟩) (pe_glob (v := .str "barred") rfl T.c_BARRED.choose_spec ⟨_, rfl⟩))) .nil)))))))), ?_⟩
    have hB := hg.bl
    have lx := hB.l4
    have la := Nat.le_trans (Nat.le_of_eq hB.la) hB.l4
    have lb := Nat.le_trans (Nat.le_of_eq hB.lb) hB.l4
    have t1 := sTx_len hB.pa la
    have t2 := sTx_len hB.pb lb
    have t3 := sTx_len hB.px lx
    have t4 := kTx_len t1 t2
    have z1 : (" in " : Str).length = 4 := by decide +kernel
    have z2 : (": " : Str).length = 2 := by decide +kernel
    have z3 : (if f then ("filled" : Str) else "barred").length = 6 := by cases f <;> decide +kernel
    refine sretV (K := K) (d := .str (shT (lastP gs) f)) (djoined (.cons (dfmt (dcall (ds := [pairD (lastP gs).1]) (dacons (dPair Y rfl hy hg.ne) danil) fun vs H1 k1 hv Q1 q1 => ?_) (by omega)) (.cons dstr (.cons (dfmt (dcall (ds := [tI (lastP gs).2]) (dacons (dBox Y rfl hy hg.ne) danil) fun vs H1 k1 hv Q1 q1 => ?_) (by omega)) (.cons dstr (.cons (dfmt (y := if f then "filled" else "barred") (dif (dtv (K := K) (dBoolY rfl hy hg)) (fun e => DE.is dstr (by rw [e]; rfl)) (fun e => DE.is dstr (by rw [e]; rfl))) (by omega)) .nil))))) (by simp only [List.map_cons, List.map_nil, List.sum_cons, List.sum_nil]; omega)) rfl k
    · obtain ⟨v1, rfl, i1⟩ := hv.inv1
      exact ⟨v1, _, _, rfl, i1, hB.pa, la, hB.pb, lb, fun H2 k2 => q1 _ H2 k2 (.str _)⟩
    · obtain ⟨v1, rfl, i1⟩ := hv.inv1
      exact ⟨v1, _, rfl, i1, hB.px, lx, fun H2 k2 => q1 _ H2 k2 (.str _)⟩

end
end TB
/-! a try with a finally whose suite lets nothing out
The steps follow those of the library: HandS.Finally; of the methods: HandS.HotCalls. -/
namespace TB
open PySem PySem.Spec PyProof.Rows L2
/-- bd W: the body's reading (W: the wish for its errors); fz: the suite when the body ran through; fy: the suite ahead of an error that flies on to Wo -/
def tFinal (bd : WX → TS) (fz fy : TS) (Wo : WX) : TS := fun D τ H => bd (wFin fy Wo) ⟨fun σ1 H1 => fz D σ1 H1, fun _ _ => False, fun _ _ => False, fun _ _ => False⟩ τ H
section
variable {X : Cx} {b0 : List Stmt} {z0 : Stmt} {zs : List Stmt} {q : Pos} {bd : WX → TS} {fz fy : TS} {Wo : WX}
theorem psFinal (e1 : X.stack = X.env :: X.outer) (e2 : X.env.frame = some X.env.locals) (e3 : X.ex = []) (tk : Takes X Wo)
    (hB : ∀ (W : WX) (ps : List (Addr × Obj)) (xe : Value → Shared → Prop), Takes (X.tr ps xe) W → PassesOwn (model X.prog X.w) X.A X.env xe → PSs (X.tr ps xe) b0 (bd W))
    (hZ : PSs X.nox (z0 :: zs) fz) (hY : ∀ (a : Addr) (ps : List (Addr × Obj)), PSs (X.suite a ps) (z0 :: zs) fy) : PS X (.Try b0 [] [] (z0 :: zs) q) (tFinal bd fz fy Wo) := by
  constructor
  intro pz s τ H D Nv h
  have okX := Nv.ok
  apply wpAny_Try_finally
  let xr : Value → Shared → Prop := fun y t => wpAny (model X.prog X.w) X.A (noteFrame y X.env) (fun _ t2 => FinallyRaised X.prog X.w X.A X.xe X.env (z0 :: zs) (SP X pz D) y t2) (FinallyRaised X.prog X.w X.A X.xe X.env (z0 :: zs) (SP X pz D)) t
  have hT : Takes (X.tr (X.pn ++ pz) xr) (wFin fy Wo) := fun u t xx => fin_exc e1 e2 e3 okX tk hY xx
  refine wpAny_mono ((hB (wFin fy Wo) (X.pn ++ pz) xr hT PassesOwn.looking).run [] s τ H _ (Nv.toTry _) h) (fun g t z => ?_) (fun _ _ w => w)
  match g, z with
  | .ret _, z =>
    obtain ⟨_, _, _, _, _, no⟩ := z
    cases no
  | .brk, z =>
    obtain ⟨_, _, _, no⟩ := z
    cases no
  | .cont, z =>
    obtain ⟨_, _, _, no⟩ := z
    cases no
  | .next, z =>
    obtain ⟨σ1, H1, J1, y1⟩ := z
    apply wpAny_execs_nil
    refine wpAny_mono (hZ.run pz t σ1 H1 D ((J1.ofTry okX).wish _) y1) (fun g2 t2 w2 => ?_) fun _ _ w => w.elim
    have w3 : SP X pz D g2 t2 := w2.unwish
    cases g2 <;> exact w3
end
end TB
namespace TB
open PySem PySem.Spec PyProof.Rows L2
section
variable {X : Cx} {CX : CXT} {k : Nat} {f C : Addr} {fd : FuncData} {ps : List Str} {sp : Sp} {E : L2.St → XK} {m : Str} {pos apos : Pos} {e o : Expr} {ez : List Expr} {ta : TE} {t : TA}
theorem run_sl {pz : List (Addr × Obj)} {τ : L2.St} {H : Hp} {s : Shared} {Q : VK} {us : List Value} {vs : List V} (F : FnR X.prog X.w X.K X.mg X.base CX k f sp) (hr : Room k X.A) (hx : PassesAt CX X τ (E τ)) (Nv : Inv X pz τ H s) (r : Vals vs us) (h : sp vs H Q (E τ)) :
    wpAny (model X.prog X.w) X.A (call (.ref f) us) (EP X pz τ Q) X.xe s := by
  refine wpAny_call (codeAny_mono (F X.A X.stack s H us vs Q (E τ) hr Nv.env0 r h) fun y s' hq => ?_)
  match y, hq with
  | .error e, hq => exact hx pz H s e s' Nv hq
  | .ok (.ret u), hq => exact Nv.after hq
  | .ok .next, hq => cases hq
  | .ok .brk, hq => cases hq
  | .ok .cont, hq => cases hq
/-- o.m(e, ..) in a try: the wish for its errors may look at the slots -/
def tMethAt (C : Addr) (m : Str) (sp : Sp) (E : L2.St → XK) (ta : TE) (t : TA) : TE := fun τ H Q => ta τ H fun x H1 => ∃ a dx fs, x = .ref a ∧ H1 a = some (.ins C dx fs) ∧ fs.lookup m = none ∧ t τ H1 fun vs H2 => sp (x :: vs) H2 Q (E τ)
theorem peMethAt {pl : Sem Bool} (he : PE X o ta) (c : Cls X.K C) (hm : Meth X.K C m f) (F : FnR X.prog X.w X.K X.mg X.base CX k f sp) (hr : Room k X.A) (hx : ∀ τ, PassesAt CX X τ (E τ)) (ha : PA X (e :: ez) t)
    (hst : starEach (e :: ez) X.env = (false, eval e X.env) :: starEach ez X.env := by rfl) (hpl : (backTo pos (starEach ez X.env)).any (·.1) = false := by rfl)
    (ht : eval (.Call (.Attribute o m apos) (e :: ez) [] pos) X.env = (do
      let ov ← eval o X.env
      standAt apos.atName
      let (f, first) ← holding [ov] (getMethod ov m pl)
      callWith pos f first (backTo pos (starEach (e :: ez) X.env)) (backToKw pos (keywordEach [] X.env))) := by rfl) :
    PE X (.Call (.Attribute o m apos) (e :: ez) [] pos) (tMethAt C m sp E ta t) := by
  refine ⟨fun pz s τ H Q Nv h => ?_⟩
  refine PySem.W.methodCall_KW (pl := pl) (thn (he.run pz s τ H _ Nv h) fun u sA ⟨x, H1, Nv1, relX, a, dx, fs, eX, atA, l, q⟩ => ?_) ht
  subst eX
  obtain rfl : u = Value.ref a := relX
  refine getmeth_ok Nv1 atA c hm l ?_
  refine PySem.W.callWith_K (first := [.ref a]) (h₀ := X.base) Nv.ok.mod.kin hm.kp (thn (ha.run pos pz sA τ H1 _ Nv1 q) fun us sB ⟨vs, H2, Nv2, r, y2⟩ => ⟨Nv2.kIn, ?_⟩) hst hpl
  exact run_sl (us := .ref a :: us) (vs := .ref a :: vs) F hr (hx τ) Nv2 (.cons rfl r) y2
theorem peMethAt0 {pl : Sem Bool} (he : PE X o ta) (c : Cls X.K C) (hm : Meth X.K C m f) (F : FnR X.prog X.w X.K X.mg X.base CX k f sp) (hr : Room k X.A) (hx : ∀ τ, PassesAt CX X τ (E τ))
    (ht : eval (.Call (.Attribute o m apos) [] [] pos) X.env = (do
      let ov ← eval o X.env
      standAt apos.atName
      let (f, first) ← holding [ov] (getMethod ov m pl)
      callWith pos f first (backTo pos (starEach [] X.env)) (backToKw pos (keywordEach [] X.env))) := by rfl) :
    PE X (.Call (.Attribute o m apos) [] [] pos) (tMethAt C m sp E ta tNil) := by
  refine ⟨fun pz s τ H Q Nv h => ?_⟩
  refine PySem.W.methodCall_KW (pl := pl) (thn (he.run pz s τ H _ Nv h) fun u sA ⟨x, H1, Nv1, relX, a, dx, fs, eX, atA, l, q⟩ => ?_) ht
  subst eX
  obtain rfl : u = Value.ref a := relX
  refine getmeth_ok Nv1 atA c hm l ?_
  exact PySem.W.callWith_K0 (first := [.ref a]) Nv1.kIn hm.kp (run_sl (us := [.ref a]) (vs := [.ref a]) F hr (hx τ) Nv1 (.cons rfl .nil) q)
end
/-- a def's promise by its values -/
theorem raw0 {P : Program} {w : World} {K : PySem.W.Frag} {mg : Str → Option Value} {base : Heap} {CX : CXT} {k : Nat} {f : Addr} {fd : FuncData} {ps : List Str} {sp : Sp} (F : FnOk P w K mg base CX k f fd ps sp) (hb : Binds K fd ps []) : FnR P w K mg base CX k f sp := (F.raw hb .nil).imp fun vs H Q E h => by rw [List.append_nil]; exact h
end TB
/-! promises kept where no repr is under way; repr of nested data
The steps follow those of the library: HandS.Defaults and HandS.HotCalls, with the guards told. -/
namespace TB
open PySem PySem.Spec PyProof.Rows L2 StX NdefX LamX
/-- no repr is under way -/
abbrev Gz (A : Around) : Prop := A.guards = some []
theorem Gz.deep {A : Around} (h : Gz A) (env : Env) : Gz (A.deeper env) := by
  first | exact h | (show (A.deeper env).guards = _; simp [Around.deeper]; exact h)
/-- a def's promise where no repr is under way -/
structure GOk (P : Program) (w : World) (K : PySem.W.Frag) (mg : Str → Option Value) (base : Heap) (CX : CXT) (k : Nat) (f : Addr) (fd : FuncData) (ps : List Str) (sp : Sp) : Prop where
  nr : ∀ xs H Q E, sp xs H Q E → xs.length = ps.length
  go : ∀ (A : Around) (os : List Env) (s : Shared) (H : Hp) (ar : Args) (us : List Value) (xs : List V) (Q : VK) (E : XK), Room k A → Gz A → Env0 P w K mg base A os s H → BindsTo s fd ar (ps.zip us) → Vals xs us → sp xs H Q E → codeAny (model P w) A (.call (.ref f) ar) (CR CX os P w H s Q E) s
/-- the same by values -/
def GR1 (P : Program) (w : World) (K : PySem.W.Frag) (mg : Str → Option Value) (base : Heap) (CX : CXT) (k : Nat) (f : Addr) (sp : Sp) : Prop :=
  ∀ (A : Around) (os : List Env) (s : Shared) (H : Hp) (us : List Value) (xs : List V) (Q : VK) (E : XK), Room k A → Gz A → Env0 P w K mg base A os s H → Vals xs us → sp xs H Q E → codeAny (model P w) A (.call (.ref f) ⟨us, []⟩) (CR CX os P w H s Q E) s
/-- what a body may ask of a callee where it stands -/
def At1 (X : Cx) (CX : CXT) (f : Addr) (sp : Sp) : Prop :=
  ∀ (s : Shared) (H : Hp) (us : List Value) (xs : List V) (Q : VK) (E : XK), X.K.In s.heap → Env0 X.prog X.w X.K X.mg X.base X.A X.stack s H → Vals xs us → sp xs H Q E → codeAny (model X.prog X.w) X.A (.call (.ref f) ⟨us, []⟩) (CR CX X.stack X.prog X.w H s Q E) s
section
variable {P : Program} {w : World} {K : PySem.W.Frag} {mg : Str → Option Value} {base : Heap} {CX : CXT} {j k : Nat} {f : Addr} {fd : FuncData} {ps : List Str} {sp : Sp} {X : Cx}
theorem GOk.mono (F : GOk P w K mg base CX j f fd ps sp) (h : j ≤ k) : GOk P w K mg base CX k f fd ps sp := ⟨F.nr, fun A os s H ar us xs Q E hr => F.go A os s H ar us xs Q E (hr.mono h)⟩
theorem GR1.mono (F : GR1 P w K mg base CX j f sp) (h : j ≤ k) : GR1 P w K mg base CX k f sp := fun A os s H us xs Q E hr => F A os s H us xs Q E (hr.mono h)
theorem GR1.of (F : FnR P w K mg base CX k f sp) : GR1 P w K mg base CX k f sp := fun A os s H us xs Q E hr _ e r h => F A os s H us xs Q E hr e r h
theorem GOk.of (F : FnOk P w K mg base CX k f fd ps sp) : GOk P w K mg base CX k f fd ps sp := ⟨F.len, fun A os s H ar us xs Q E hr _ e b r h => F.run A os s H ar us xs Q E hr e b r h⟩
theorem GR1.at (F : GR1 X.prog X.w X.K X.mg X.base CX k f sp) (hr : Room k X.A) (hG : Gz X.A) : At1 X CX f sp := fun s H us xs Q E _ e r h => F X.A X.stack s H us xs Q E hr hG e r h
theorem GOk.at (F : GOk X.prog X.w X.K X.mg X.base CX k f fd ps sp) (hb : Binds X.K fd ps []) (hr : Room k X.A) (hG : Gz X.A) : At1 X CX f sp := fun s H us xs Q E kin e r h => by
  have h1 : (us ++ []).length = ps.length := by rw [List.append_nil, ← r.length]; exact F.nr _ _ _ _ h
  have h2 := hb s us kin h1
  rw [List.append_nil] at h2
  exact F.go X.A X.stack s H ⟨us, []⟩ us xs Q E hr hG e h2 r h
theorem GOk.raw (F : GOk P w K mg base CX k f fd ps sp) (hb : Binds K fd ps []) : GR1 P w K mg base CX k f sp := fun A os s H us xs Q E hr hG e r h => by
  have h1 : (us ++ []).length = ps.length := by rw [List.append_nil, ← r.length]; exact F.nr _ _ _ _ h
  have h2 := hb s us (e.mod.kin.keeps fun b o q => (e.bs b o q).1) h1
  rw [List.append_nil] at h2
  exact F.go A os s H ⟨us, []⟩ us xs Q E hr hG e h2 r h
/-- by the body -/
theorem gok {x qual : Str} {pr : Arguments} {bd : List Stmt} {sc : Scope} {dvs : List V} {kws : List (Str × V)} {N : List Str} (F : FunD K x qual pr bd sc dvs kws f fd) (S : FnScope N ps sc) (nr : ∀ xs H Q E, sp xs H Q E → xs.length = ps.length)
    (hb : ∀ (cdv : Value) (A : Around) (os : List Env) (s : Shared) (H : Hp) (xs : List V) (Q : VK) (E : XK), Room k (A.deeper (envOfC qual sc s.heap.objs.size f cdv)) → Gz (A.deeper (envOfC qual sc s.heap.objs.size f cdv)) → sp xs H Q E →
      ∃ t, PSs (cxOf CX P w K mg base N qual sc f cdv A os s H E) bd t ∧ t { nx := fun _ H' => Q .non H', rt := Q } (start N xs) H) : GOk P w K mg base CX (k + 1) f fd ps sp := by
  obtain ⟨oc, od, dV, kV, doc, pm, an, cdv, ct, osl, rfl, lk, hcd, _, _⟩ := F.ex
  refine ⟨nr, fun A os s H ar us xs Q E hr hG e0 hbd r hq => ?_⟩
  have inK : K.In s.heap := e0.mod.kin.keeps fun b o q => (e0.bs b o q).1
  have noLim : s.heap.NoLimit := e0.mod.nolimit.keeps fun b o q => (e0.bs b o q).1
  refine codeAny_call_function hr.depth (inK _ _ lk) rfl S.co S.gen rfl (PySem.W.codeRec_of inK hcd) (hbd _ _ _ _ ?_)
  refine wpAny_newFunctionEnv_cells S.kind (fun ⟨n, v⟩ hy => (S.par n (List.of_mem_zip hy).1).imp id fun q => ⟨q, PySem.W.cellsFrom_some _ _ _ (.inl q)⟩) fun env hE sA z => ?_
  subst hE
  refine ⟨noLim.keeps z.toInCall.keep, codeAny_func ?_⟩
  obtain ⟨t, ht, q0⟩ := hb cdv A os s H xs Q E (hr.deeper _) (hG.deep _) hq
  have Nv := inv_start (CX := CX) (E := E) (cd := cdv) S hr.hd e0 (nr _ _ _ _ hq) r z
  refine wpAny_mono (ht.run [] sA (start N xs) H _ Nv q0) (fun g s' hs => ?_) fun _ _ q => q
  match g, hs with
  | .ret u, ⟨v, σ', H', J, rv, q⟩ => exact ⟨v, H', J.os, J.bare, J.base, J.hok, rv, q⟩
  | .next, ⟨σ', H', J, q⟩ => exact ⟨V.non, H', J.os, J.bare, J.base, J.hok, rfl, q⟩
  | .brk, ⟨_, _, _, q⟩ => exact q.elim
  | .cont, ⟨_, _, _, q⟩ => exact q.elim
end
section
variable {X : Cx} {CX : CXT} {f C : Addr} {sp : Sp} {E : XK} {x m : Str} {p pos apos : Pos} {e o : Expr} {es : List Expr} {ta : TE} {t : TA} {F : FuncData} {i : Nat}
theorem run_1 {pz : List (Addr × Obj)} {τ : L2.St} {H : Hp} {s : Shared} {Q : VK} {us : List Value} {xs : List V} (G : At1 X CX f sp) (hx : PassesAt CX X τ E) (Nv : Inv X pz τ H s) (r : Vals xs us) (h : sp xs H Q E) :
    wpAny (model X.prog X.w) X.A (call (.ref f) us) (EP X pz τ Q) X.xe s :=
  wpAny_call (codeAny_mono (G s H us xs Q E Nv.kIn Nv.env0 r h) fun z s' hq => match z, hq with
    | .error e, hq => hx pz H s e s' Nv hq
    | .ok (.ret u), hq => Nv.after hq
    | .ok .next, hq => hq.elim
    | .ok .brk, hq => hq.elim
    | .ok .cont, hq => hq.elim)
/-- f(e, ..) of the text -/
theorem peCall1 (G : At1 X CX f sp) (hg : Gl X x) (hm : X.mg x = some (.ref f)) (hk : PySem.W.keepIn X.K (.ref f) = true) (hx : Passes CX X E) (ha : PA X (e :: es) t)
    (hdb : (x == ("__debug__" : Str)) = false := by decide) (he : starEach (e :: es) X.env = (false, eval e X.env) :: starEach es X.env := by rfl) (hpl : (backTo pos (starEach es X.env)).any (·.1) = false := by rfl) : PE X (.Call (.Name x p) (e :: es) [] pos) (tCall sp [] E t) := by
  refine ⟨fun pz s τ H Q Nv h => wpAny_Call_Name_kw (ld_glob Nv hg hm ?_ hdb)⟩
  refine PySem.W.callWith_K (h₀ := X.base) Nv.ok.mod.kin hk (thn (ha.run pos pz s τ H _ Nv h) fun us sA ⟨xs, H1, Nv1, r, q⟩ => ⟨Nv1.kIn, ?_⟩) he hpl
  replace q : sp (xs ++ []) H1 Q E := q
  rw [List.append_nil] at q
  exact run_1 G (Passes.at hx τ) Nv1 r q
/-- g(e, ..), g a name that holds a function made within a def -/
theorem peCallQ1 (G : At1 X CX f sp) (hx : Passes CX X E) (hN : X.N[i]? = some x) (hv : Vis X.env.scope x) (ha : PA X (e :: es) t) (hd : (x == ("__debug__" : Str)) = false := by decide) (hcd : (x == ("__classdict__" : Str)) = false := by decide)
    (he : starEach (e :: es) X.env = (false, eval e X.env) :: starEach es X.env := by rfl) (hpl : (backTo pos (starEach es X.env)).any (·.1) = false := by rfl) : PE X (.Call (.Name x p) (e :: es) [] pos) (tCallQ i f F sp E t) := by
  refine ⟨fun pz s τ H Q Nv ⟨hs, hf, ht⟩ => wpAny_Call_Name_kw (thn ((pe_var (pos := p) hN hv hd hcd).run pz s τ H (fun v H1 => v = .ref f ∧ H1 = H) Nv ⟨.ref f, hs, rfl, rfl⟩) fun u sA ⟨v, H1, Nv1, r1, ev, eH⟩ => ?_)⟩
  subst ev
  rw [eH] at Nv1
  obtain rfl : u = Value.ref f := r1
  exact PySem.W.callWith_F (first := []) (fnq_at Nv1 hf) (thn (ha.run pos pz sA τ H _ Nv1 ht) fun us sB ⟨xs, H2, Nv2, r, h1, q⟩ => ⟨fnq_at Nv2 h1, run_1 G (Passes.at hx τ) Nv2 r q⟩) he hpl
end
section
variable {X : Cx} {CX : CXT} {f C : Addr} {sp : Sp} {E : L2.St → XK} {m : Str} {pos apos : Pos} {e o : Expr} {es : List Expr} {ta : TE} {t : TA}
/-- o.m(e, ..) in a try -/
theorem peMethAt1 {pl : Sem Bool} (he : PE X o ta) (c : Cls X.K C) (hm : Meth X.K C m f) (G : At1 X CX f sp) (hx : ∀ τ, PassesAt CX X τ (E τ)) (ha : PA X (e :: es) t) (hst : starEach (e :: es) X.env = (false, eval e X.env) :: starEach es X.env := by rfl) (hpl : (backTo pos (starEach es X.env)).any (·.1) = false := by rfl)
    (ht : eval (.Call (.Attribute o m apos) (e :: es) [] pos) X.env = (do let ov ← eval o X.env; standAt apos.atName; let (f, first) ← holding [ov] (getMethod ov m pl); callWith pos f first (backTo pos (starEach (e :: es) X.env)) (backToKw pos (keywordEach [] X.env))) := by rfl) :
    PE X (.Call (.Attribute o m apos) (e :: es) [] pos) (tMethAt C m sp E ta t) := by
  refine ⟨fun pz s τ H Q Nv h => PySem.W.methodCall_KW (pl := pl) (thn (he.run pz s τ H _ Nv h) fun u sA ⟨x, H1, Nv1, rx, a, dx, fs, ex, ea, l, q⟩ => ?_) ht⟩
  subst ex
  obtain rfl : u = Value.ref a := rx
  exact getmeth_ok Nv1 ea c hm l (PySem.W.callWith_K (first := [.ref a]) (h₀ := X.base) Nv.ok.mod.kin hm.kp (thn (ha.run pos pz sA τ H1 _ Nv1 q) fun us sB ⟨vs, H2, Nv2, r, y2⟩ => ⟨Nv2.kIn, run_1 (us := .ref a :: us) (xs := .ref a :: vs) G (hx τ) Nv2 (.cons rfl r) y2⟩) hst hpl)
end
section
variable {X : Cx} {CX : CXT} {k n : Nat} {f C : Addr} {fd : FuncData} {ps ks : List Str} {sp : Sp} {E : L2.St → XK} {m : Str} {pos apos : Pos} {e o : Expr} {es : List Expr} {kws : List Keyword} {ta : TE} {t tk : TA} {g : List Value → List Value → List Value} {gV : List V → List V → List V}
/-- o.m(e, .., k = v) -/
theorem peMethN1 {pl : Sem Bool} (he : PE X o ta) (c : Cls X.K C) (hm : Meth X.K C m f) (F : GOk X.prog X.w X.K X.mg X.base CX k f fd ps sp) (hr : Room k X.A) (hG : Gz X.A) (hb : KBn X.K fd ps n ks g gV) (hx : ∀ τ, PassesAt CX X τ (E τ)) (ha : PA X (e :: es) t)
    (hkw : PK X kws tk) (hall : (backToKw pos (keywordEach kws X.env)).all (·.1.isSome) = true := by rfl) (hks : (backToKw pos (keywordEach kws X.env)).filterMap (·.1) = ks := by rfl) (hst : starEach (e :: es) X.env = (false, eval e X.env) :: starEach es X.env := by rfl)
    (hpl : ((backTo pos (starEach (e :: es) X.env)).any (·.1) || (backToKw pos (keywordEach kws X.env)).any (·.1.isNone)) = false := by rfl)
    (ht : eval (.Call (.Attribute o m apos) (e :: es) kws pos) X.env = (do let ov ← eval o X.env; standAt apos.atName; let (f, first) ← holding [ov] (getMethod ov m pl); callWith pos f first (backTo pos (starEach (e :: es) X.env)) (backToKw pos (keywordEach kws X.env))) := by rfl) :
    PE X (.Call (.Attribute o m apos) (e :: es) kws pos) (tMethN C m n ks.length sp gV E ta t tk) := by
  refine ⟨fun pz s τ H Q Nv h => PySem.W.methodCall_KW (pl := pl) (thn (he.run pz s τ H _ Nv h) fun u sA ⟨x, H1, Nv1, rx, a, dx, fs, ex, ea, l, q⟩ => ?_) ht⟩
  subst ex
  obtain rfl : u = Value.ref a := rx
  refine getmeth_ok Nv1 ea c hm l (PySem.W.callWith_KW (first := [.ref a]) (h₀ := X.base) Nv.ok.mod.kin hm.kp hall (thn (ha.run pos pz sA τ H1 _ Nv1 q) fun us sB ⟨vs, H2, Nv2, r, y2⟩ => thn (hkw.run pos pz sB τ H2 _ Nv2 y2) fun ws s3 ⟨zs, H3, I3, rz, l1, l2, q3⟩ => ⟨I3.kIn, ?_⟩) hpl hst)
  rw [hks]
  have rr : Vals (V.ref a :: vs) (Value.ref a :: us) := .cons rfl r
  refine wpAny_call (codeAny_mono (F.go X.A X.stack s3 H3 ⟨.ref a :: us, ks.zip ws⟩ (g (.ref a :: us) ws) (gV (.ref a :: vs) zs) Q (E τ) hr hG I3.env0 (hb.to s3 (.ref a :: us) ws I3.kIn (rr.length.symm.trans l1) (rz.length.symm.trans l2)) (hb.rel rr rz) q3) fun y s' hq => ?_)
  match y, hq with
  | .error e, hq => exact hx τ pz H3 s3 e s' I3 hq
  | .ok (.ret u), hq => exact I3.after hq
  | .ok .next, hq => exact hq.elim
  | .ok .brk, hq => exact hq.elim
  | .ok .cont, hq => exact hq.elim
end
/-! ### repr -/
section
variable {X : Cx} {pz : List (Addr × Obj)} {τ : L2.St} {H : Hp} {s : Shared}
mutual
theorem reads_im (Nv : Inv X pz τ H s) : ∀ {v : V} {d : PyData}, Im X.K H v d → ∀ {u : Value}, RelV v u → ∃ as, Reads s.heap u d as
  | _, _, .non, _, r => by cases r; exact ⟨_, .none⟩
  | _, _, .bl b, _, r => by cases r; exact ⟨_, .bool b⟩
  | _, _, .int i, _, r => by obtain ⟨t, rfl⟩ := r; exact ⟨_, .int i t⟩
  | _, _, .str x, _, r => by obtain ⟨t, rfl⟩ := r; exact ⟨_, .str x t⟩
  | _, _, .tup h hs, u, r => by
    obtain rfl : u = Value.ref _ := r
    obtain ⟨its, rv, ⟨o, ho, hc, n, hd⟩, hz⟩ := Nv.tuple h
    obtain ⟨as, ha⟩ := reads_all Nv hs rv
    exact ⟨as, .tuple ho hc hd (by simpa using ha)⟩
theorem reads_all (Nv : Inv X pz τ H s) : ∀ {vs : List V} {ds : List PyData}, ImAll X.K H vs ds → ∀ {us : List Value}, Vals vs us → ∃ as, ReadsAll s.heap us ds as
  | _, _, .nil, _, r => by cases r; exact ⟨_, .nil⟩
  | _, _, .cons h hs, _, r => by
    cases r with
    | cons r1 r2 =>
      obtain ⟨a1, h1⟩ := reads_im Nv h r1
      obtain ⟨a2, h2⟩ := reads_all Nv hs r2
      exact ⟨_, .cons h1 h2⟩
end
end
/-- repr(e), e a list of data -/
def rRepr (K : PySem.W.Frag) : List V → Hp → VK → Prop := fun xs H Q => ∃ (l : Addr) (vs : List V) (ds : List PyData), xs = [.ref l] ∧ SqL K H l vs ∧ ImAll K H vs ds ∧ (PyData.list ds).showable = true ∧ (PyData.list ds).hasDict = false ∧ (PyData.list ds).depth ≤ 20 ∧ (PyData.list ds).shown.length ≤ sizeLine ∧ Q (.str (PyData.list ds).shown) H
theorem cRepr {X : Cx} {K : PySem.W.Frag} {k : Nat} (hK : X.K = K) (hr : Room k X.A) (hG : Gz X.A) : CallR X (.builtin "repr") (rRepr K) := by
  subst hK
  intro pz s τ H xs us Q Nv r h
  obtain ⟨l, vs, ds, rfl, hl, hd, h1, h2, h3, h4, q⟩ := h
  cases r with
  | cons r0 rr =>
    cases rr
    cases r0
    obtain ⟨its, rv, ⟨o, n, ho, hc, _, hdat⟩, hz⟩ := Nv.list hl
    obtain ⟨as, ra⟩ := reads_all Nv hd rv
    have un := hr.un
    refine repr_of_reads' (as := l :: as) (d := .list ds) (.list ho hc (by simpa using hdat) (by simpa using ra)) h1 (PyData.noDict_hsm h2) hG (by omega) (fun _ _ z => z) (fun h' u tk hk => ⟨.str _, H, Nv.kept (t' := tk) hk, ⟨_, rfl⟩, q⟩) h4
end TB
/-! what the text of a yard's looks bears -/
namespace TB
open PySem PySem.Spec PyProof.Rows L2
/-- signs that repr tells in ten at most -/
def Lo (t : Str) : Prop := ∀ c ∈ t.cps.toList, c < 16 ^ 8
theorem Lo.app {a b : Str} (h : Lo a) (k : Lo b) : Lo (a ++ b) := fun c hc => (mem_cps_append.mp hc).elim (h c) (k c)
theorem Lo.num (i : Int) : Lo (nTx i) := fun c hc => by
  by_cases h : c < 16 ^ 8
  · exact h
  · exact absurd hc (int_text_free' c ⟨by omega, .inr (by omega)⟩ i)
theorem Lo.join {sep : Str} (hs : Lo sep) {ts : List Str} (h : ∀ t ∈ ts, Lo t) : Lo (Txt.join sep ts) := fun c hc => by
  unfold Txt.join at hc
  rw [StrLaws.glued_eq_join] at hc
  rcases (mem_join sep c ts).mp hc with ⟨t, ht, hc⟩ | ⟨_, hc⟩
  · exact h t ht c hc
  · exact hs c hc
theorem Lo.sT (l : List Int) : Lo (sTx l) := Lo.join (fun c hc => by
  have e : (Str.ofString "x").cps.toList = [120] := by decide
  rw [e] at hc
  obtain rfl := List.mem_singleton.mp hc
  decide) fun t ht => by
    obtain ⟨i, _, rfl⟩ := List.mem_map.mp ht
    exact Lo.num i
theorem Lo.kT (a b : List Int) : Lo (kTx a b) := Lo.join (fun c hc => by
  have e : (Str.ofString " ").cps.toList = [32] := by decide
  rw [e] at hc
  obtain rfl := List.mem_singleton.mp hc
  decide) fun t ht => by
    rcases List.mem_cons.mp ht with rfl | ht
    · exact Lo.sT a
    · rw [List.mem_singleton.mp ht]
      exact Lo.sT b
theorem Lo.lit {s : String} (h : (s.toList.all fun c => decide (c.toNat < 16 ^ 8)) = true) : Lo (Str.ofString s) := fun c hc => by
  rw [signs_ofString] at hc
  obtain ⟨ch, h1, rfl⟩ := List.mem_map.mp hc
  exact of_decide_eq_true (List.all_eq_true.mp h ch h1)
theorem Lo.shT (g : Pg) (f : Bool) : Lo (TB.shT g f) := by
  unfold TB.shT
  show Lo (((((Str.empty ++ kTx g.1.1 g.1.2) ++ Str.ofString " in ") ++ sTx g.2) ++ Str.ofString ": ") ++ _)
  refine ((((Lo.app (fun c hc => absurd hc (by simp [Str.empty])) (Lo.kT _ _)).app (Lo.lit (by decide +kernel))).app (Lo.sT _)).app (Lo.lit (by decide +kernel))).app ?_
  cases f
  · exact Lo.lit (by decide +kernel)
  · exact Lo.lit (by decide +kernel)
/-- what the looks of a yard are told by -/
def shL (g : Pg) (k : Nat) (n : Nat) (f : Bool) : List PyData := [pairD g.1, tI g.2, .int ((k : Int) - 1), .str "same", .bool f, .int (n : Int), .str (shT g f)]
section
variable {l : List Int}
theorem ti_sh (h : ∀ s ∈ l, 0 < s ∧ s ≤ 1000) : PyData.showableAll (l.map .int) = true ∧ PyData.hasDictAll (l.map .int) = false ∧ PyData.depthAll (l.map .int) = 0 ∧ PyData.leavesShortAll 13 (l.map .int) = true ∧ PyData.bulkAll (l.map .int) = l.length := by
  induction l with
  | nil => exact ⟨rfl, rfl, rfl, rfl, rfl⟩
  | cons i r ih =>
    obtain ⟨a, b, c, d, e⟩ := ih fun s hs => h s (List.mem_cons_of_mem _ hs)
    obtain ⟨h0, h1⟩ := h i List.mem_cons_self
    refine ⟨?_, ?_, ?_, ?_, ?_⟩
    · simp only [List.map_cons, PyData.showableAll, PyData.showable, Bool.and_eq_true, decide_eq_true_eq]
      refine ⟨?_, a⟩
      have : i.natAbs < 2 ^ 10 := by omega
      by_cases z : i.natAbs = 0
      · rw [z]; decide
      · have := (Nat.log2_lt z).mpr this
        omega
    · simp only [List.map_cons, PyData.hasDictAll, PyData.hasDict, Bool.false_or]; exact b
    · simp only [List.map_cons, PyData.depthAll, PyData.depth, c, Nat.max_self]
    · simp only [List.map_cons, PyData.leavesShortAll, PyData.leavesShort, Bool.and_eq_true, decide_eq_true_eq]
      refine ⟨?_, d⟩
      rw [PyData.shown_int]
      have := nTx_len h0 h1
      show (nTx i).length ≤ 13
      omega
    · simp only [List.map_cons, PyData.bulkAll, PyData.bulk, e, List.length_cons]; omega
end
theorem shT_len {g : Pg} {f : Bool} (h : Bx g.1.1 g.1.2 g.2) : (shT g f).length ≤ 200 := by
  have la := h.la
  have lb := h.lb
  have l4 := h.l4
  have a := kTx_len (sTx_len h.pa (by omega)) (sTx_len h.pb (by omega))
  have b := sTx_len h.px (by omega)
  unfold shT
  show (((((Str.empty ++ kTx g.1.1 g.1.2) ++ Str.ofString " in ") ++ sTx g.2) ++ Str.ofString ": ") ++ _).length ≤ _
  rw [Str.length_append, Str.length_append, Str.length_append, Str.length_append, Str.length_append]
  have e0 : Str.empty.length = 0 := rfl
  have e1 : (Str.ofString " in ").length = 4 := by decide
  have e2 : (Str.ofString ": ").length = 2 := by decide
  have e3 : (if f = true then ("filled" : Str) else "barred").length = 6 := by cases f <;> decide
  have e4 : (if f = true then Str.ofString "filled" else Str.ofString "barred").length = 6 := by cases f <;> decide
  omega
theorem shL_ok {g : Pg} {k n : Nat} {f : Bool} (h : Bx g.1.1 g.1.2 g.2) (hk : k ≤ 1000) (hn : n ≤ 1000) :
    (PyData.list (shL g k n f)).showable = true ∧ (PyData.list (shL g k n f)).hasDict = false ∧ (PyData.list (shL g k n f)).depth ≤ 20 ∧ (PyData.list (shL g k n f)).shown.length ≤ sizeLine := by
  obtain ⟨a1, a2, a3, a4, a5⟩ := ti_sh h.pa
  obtain ⟨b1, b2, b3, b4, b5⟩ := ti_sh h.pb
  obtain ⟨x1, x2, x3, x4, x5⟩ := ti_sh h.px
  have la := h.la
  have lb := h.lb
  have l4 := h.l4
  have lt := shT_len (f := f) h
  have small : ∀ i : Int, i.natAbs < 2 ^ 11 → i.natAbs.log2 < 1920 := fun i hi => by
    by_cases z : i.natAbs = 0
    · rw [z]; decide
    · have := (Nat.log2_lt z).mpr hi
      omega
  have short : ∀ i : Int, -1 ≤ i → i ≤ 1000 → (PyData.shown (.int i)).length ≤ 13 := fun i h0 h1 => by
    rw [PyData.shown_int]
    by_cases z : i = -1
    · rw [z]; decide
    · have := toString_length_le (v := i) (k := 4) (by omega) (by decide) (by omega)
      show (nTx i).length ≤ 13
      unfold nTx
      omega
  refine ⟨?_, ?_, ?_, PyData.shown_fits_bulk (B := 13) (by decide) (by decide) ?_ ?_⟩
  · simp only [shL, pairD, tI, PyData.showable, PyData.showableAll, a1, b1, x1, Bool.and_true, Bool.true_and, Bool.and_eq_true, decide_eq_true_eq]
    exact ⟨small _ (by omega), small _ (by omega)⟩
  · simp only [shL, pairD, tI, PyData.hasDict, PyData.hasDictAll, a2, b2, x2, Bool.or_false]
  · simp only [shL, pairD, tI, PyData.depth, PyData.depthAll, a3, b3, x3]
    omega
  · simp only [shL, pairD, tI, PyData.leavesShort, PyData.leavesShortAll, a4, b4, x4, Bool.and_true, Bool.true_and, Bool.and_eq_true, decide_eq_true_eq]
    refine ⟨short _ (by omega) (by omega), by decide +kernel, short _ (by omega) (by omega), ?_⟩
    exact List.all_eq_true.mpr fun c hc => decide_eq_true (Lo.shT g f c hc)
  · simp only [shL, pairD, tI, PyData.bulk, PyData.bulkAll, a5, b5, x5]
    have e1 : (Str.ofString "same").cps.size = 4 := by decide
    have e2 : (shT g f).cps.size ≤ 200 := lt
    omega
end TB
namespace TB
open PySem PySem.Spec PyProof.Rows L2
section
variable {P : Program} {w : World} {K : PySem.W.Frag} {mg : Str → Option Value} {base : Heap}

theorem pmk_own0 {X : Cx} {C : Addr} {bmB : List Value} {B newId initId : String} {x : Str} {p pos : Pos} (F : ExcBaseFacts B newId initId bmB) (q : PySem.W.excIn X.K C bmB newId = true) (gC : X.mg x = some (.ref C)) (kC : PySem.W.keepIn X.K (.ref C) = true) (r : Raises X (.ref C)) (hg : Gl X x)
    (hdb : (x == ("__debug__" : Str)) = false := by decide) : PMk X (.Call (.Name x p) [] [] pos) (fun _ H Q => Q (.ref C) none H) := by
  intro pins s σ H Q I h
  refine wpAny_Call_Name_kw (ld_glob I hg gC ?_ hdb)
  refine PySem.W.callWith_K0 I.kIn kC ?_
  obtain ⟨bm, N, nm, qn, bs, hdct, sn, sub, ab, col, dd, k0, k1, k2, k3, k5, mN, hC, hN, hni, T⟩ := exc_obj I.kIn q
  refine wpAny_call_exc_subT F T hC hN hni (fun h' e hm => ?_) (by show 0 ≤ sizeLine; omega)
  exact mk_of I hm r h (I.hok.gone hm.new)

abbrev nl_Y_require_free : List Str := ["self"]
theorem sc_Y_require_free : FnScope nl_Y_require_free ["self"] (defScope s_Y_require_free) := ⟨rfl, rfl, rfl, by decide +kernel, rfl, by decide +kernel, by decide +kernel⟩
def sp_Y_free (K : PySem.W.Frag) : Sp := fun vs H Q E => ∃ (y : Addr) (fu b : Bool) (gs : List Pg), vs = [.ref y] ∧ Yd K H y fu b gs ∧ (b = true → ∀ H', Kp [] H H' → E (.ref (He.ga K "Busy")) none H') ∧ (b = false → RetV H Q .non)
theorem ok_Y_require_free (T : Txt K mg) (B : Tab K w mg) (Y : Yrd K mg) : FnOk P w K mg base (L2.CX P w) 1 (He.ma K (He.ga K "Yard") "require_free") (fdA K (He.ma K (He.ga K "Yard") "require_free")) ["self"] (sp_Y_free K) := by
  refine T.f_Y_require_free.ok sc_Y_require_free (fun vs H Q E h => ?_) (fun cdv A outer s H vs Q E hr h => ?_)
  · obtain ⟨y, fu, b, gs, rfl, hy, k1, k2⟩ := h
    rfl
  · have nd := sc_Y_require_free.nd
    have hu := hr.units
    obtain ⟨y, fu, b, gs, rfl, hy, k1, k2⟩ := h
    refine ⟨_, (pss_one (ps_if (pt_val (peFld (K := K) rfl (pv 0))) (pss_one (ps_raise rfl (takes_of rfl rfl rfl rfl) (pmk_own0 PySem.F.excBase_ValueError Y.xB Y.gB Y.kB (raises_own Y.bB Y.tB) (by exact rfl)))) pss_nil)), ?_⟩
    exact sif (dtv (K := K) (dBusy Y rfl hy)) (fun e H1 h1 => k1 e H1 h1) (fun e H1 h1 => k2 e H1 h1)

abbrev nl_Y_judge : List Str := ["self", "page"]
theorem sc_Y_judge : FnScope nl_Y_judge ["self", "page"] (defScope s_Y_judge) := ⟨rfl, rfl, rfl, by decide +kernel, rfl, by decide +kernel, by decide +kernel⟩
def sp_judge (K : PySem.W.Frag) : Sp := fun vs H Q _ => ∃ (y : V) (vg : V) (a b x : List Int), vs = [y, vg] ∧ Im K H vg (pageD ((a, b), x)) ∧ Bx a b x ∧ fillB a b x = true ∧ RetV H Q .non
def sp_judgeY (K : PySem.W.Frag) : Sp := fun vs H Q _ => ∃ (y : V) (vg : V), vs = [y, vg] ∧ RetV H Q .non
theorem ok_Y_judge (T : Txt K mg) (B : Tab K w mg) (Y : Yrd K mg) : FnOk P w K mg base CX0 1 (He.ma K (He.ga K "Yard") "judge") (fdA K (He.ma K (He.ga K "Yard") "judge")) ["self", "page"] (sp_judgeY K) := by
  refine T.f_Y_judge.ok sc_Y_judge (fun vs H Q E h => ?_) (fun cdv A outer s H vs Q E hr h => ?_)
  · obtain ⟨y, vg, rfl, k⟩ := h
    rfl
  · have nd := sc_Y_judge.nd
    have hu := hr.units
    obtain ⟨y, vg, rfl, k⟩ := h
    refine ⟨_, PSs.nox (pss_one ps_pass), ?_⟩
    exact k _ .refl

abbrev nl_F_judge : List Str := ["self", "page", "told"]
theorem sc_F_judge : FnScope nl_F_judge ["self", "page"] (defScope s_F_judge) := ⟨rfl, rfl, rfl, by decide +kernel, rfl, by decide +kernel, by decide +kernel⟩

theorem ok_F_judge (T : Txt K mg) (B : Tab K w mg) (Y : Yrd K mg) : FnOk P w K mg base CX0 5 (He.ma K (He.ga K "FullYard") "judge") (fdA K (He.ma K (He.ga K "FullYard") "judge")) ["self", "page"] (sp_judge K) := by
  refine T.f_F_judge.ok sc_F_judge (fun vs H Q E h => ?_) (fun cdv A outer s H vs Q E hr h => ?_)
  · obtain ⟨y, vg, a, b, x, rfl, ig, B, hf, k⟩ := h
    rfl
  · have nd := sc_F_judge.nd
    have hu := hr.units
    obtain ⟨y, vg, a, b, x, rfl, ig, B, hf, k⟩ := h
    refine ⟨_, PSs.nox (pss_cons (ps_set (i := 2) nd rfl (Or.inl rfl) (pe_call (ok_paper_papers T) (hr.mono (by decide)) (by rfl) T.g_paper_papers (T.f_paper_papers.kp) (T.b_paper_papers) .nil pass0 (pa_cons (pe_ix (ixT (K := K) rfl) (pv 1) pe_int (fun _ _ => rfl)) (pa_cons (pe_ix (ixT (K := K) rfl) (pv 1) pe_int (fun _ _ => rfl)) pa_nil))))
      (pss_one (ps_if (pt_cmpR op_ne (pe_ix (ixT (K := K) rfl) (pv 2) pe_int (fun _ _ => rfl)) pe_str (nomark _)) (pss_one ps_never) pss_nil))), ?_⟩
    refine qcallR (K := K) (ds := [pairD (a, b), tI x]) (dacons (dix (dv rfl ig) dint at0) (dacons (dix (dv rfl ig) dint at1) danil)) fun vs H1 k1 hv => ?_
    obtain ⟨v1, v2, rfl, i1, i2⟩ := hv.inv2
    refine ⟨v1, v2, a, b, x, rfl, i1, i2, B, fun d hd v H2 k2 h2 => ?_⟩
    have hc := paper_fill B hd
    rw [hf] at hc
    obtain ⟨w0, r, rfl⟩ := paper_tup hd
    have e : w0 = "cut" := by simpa [isCut] using hc
    refine sif (b := false) (DT.is (dtv (K := K) (dne (dix (dv rfl h2) dint (atI_nat (j := 0) rfl)) dstr rfl rfl rfl)) (by simp [e])) (fun e => nomatch e) (fun _ H3 k3 => k H3 (k1.trans (k2.trans k3)))


theorem putF_le (f : Str) (v : V) : ∀ fs : List (Str × V), (putF f v fs).length ≤ fs.length + 1
  | [] => by simp [putF]
  | (g, x) :: r => by
    have := putF_le f v r
    unfold putF
    split <;> simp <;> omega

abbrev nl_Y_stand : List Str := ["self", "pages"]
theorem sc_Y_stand : FnScope nl_Y_stand ["self", "pages"] (defScope s_Y_stand) := ⟨rfl, rfl, rfl, by decide +kernel, rfl, by decide +kernel, by decide +kernel⟩
def sp_stand (K : PySem.W.Frag) : Sp := fun vs H Q _ => ∃ (y dx : Addr) (vp : V) (fu : Bool) (fs : List (Str × V)) (gs : List Pg), vs = [.ref y, vp] ∧ H y = some (.ins (kC K fu) dx fs) ∧ Im K H vp (.tuple (gs.map pageD)) ∧ gs ≠ [] ∧ fs.length < 900 ∧ fs.lookup ("SORT" : Str) = none ∧
  ∀ H' pa la, Kp [y] H H' → H' y = some (.ins (kC K fu) dx (putF "look" (.ref la) (putF "pages" (.ref pa) fs))) → Im K H' (.ref pa) (.tuple (gs.map pageD)) → Im K H' (.ref la) (lookD fu gs) → Q .non H'
theorem ok_Y_stand (T : Txt K mg) (B : Tab K w mg) (Y : Yrd K mg) : FnOk P w K mg base CX0 1 (He.ma K (He.ga K "Yard") "stand") (fdA K (He.ma K (He.ga K "Yard") "stand")) ["self", "pages"] (sp_stand K) := by
  refine T.f_Y_stand.ok sc_Y_stand (fun vs H Q E h => ?_) (fun cdv A outer s H vs Q E hr h => ?_)
  · obtain ⟨y, dx, vp, fu, fs, gs, rfl, hy, ip, hn, hl, hs, k⟩ := h
    rfl
  · have nd := sc_Y_stand.nd
    have hu := hr.units
    obtain ⟨y, dx, vp, fu, fs, gs, rfl, hy, ip, hn, hl, hs, k⟩ := h
    refine ⟨_, PSs.nox (pss_one (ps_asg (pe_tup (pa_cons (pv 1) (pa_cons (pe_tup (pa_cons (peCon (K := K) rfl (pv 0)) (pa_cons (pe_ix (ixT (K := K) rfl) (pv 1) (pe_un un_neg pe_int) (fun _ _ => rfl)) pa_nil))) pa_nil))) (pgT (K := K) (n := 2) rfl rfl (pgs_cons (pgAt (K := K) rfl (pv 0)) (pgs_cons (pgAt (K := K) rfl (pv 0)) pgs_nil))))), ?_⟩
    obtain ⟨u, hu2⟩ := (Y.kl fu).so
    have dSort : DE K (tCon K (tVar 0) "SORT") (L2.start nl_Y_stand [V.ref y, vp]) H (.str (kS fu)) := fun H1 k Q q => ⟨_, rfl, y, kC K fu, dx, fs, .str (kS fu), u, rfl, k.get hy, (Y.kl fu).cl, hu2, hs, q _ H1 .refl (.str _)⟩
    refine (dtup (dacons (dv rfl ip) (dacons (dtup (dacons dSort (dacons (dix (dv rfl ip) (dneg dint) (last_at hn)) danil))) danil))) H .refl _ fun v H1 k1 hv => ?_
    obtain ⟨a, xs, rfl, ha, hx⟩ := hv.tupI
    obtain ⟨v1, v2, rfl, i1, i2⟩ := hx.inv2
    obtain ⟨pa, _, rfl, _, _⟩ := i1.tupI
    obtain ⟨la, _, rfl, _, _⟩ := i2.tupI
    have h1 := k1.get hy
    have l1 := putF_le "pages" (.ref pa) fs
    refine ⟨a, _, rfl, ha, rfl, _, _, rfl, _, rfl, y, kC K fu, dx, fs, rfl, h1, (Y.kl fu).cl, (Y.kl fu).aP, by omega, _, _, rfl, _, rfl, y, kC K fu, dx, _, rfl, upd_same, (Y.kl fu).cl, (Y.kl fu).aL, by omega, rfl, ?_⟩
    have kk : Kp [y] H1 (upd (upd H1 y (.ins (kC K fu) dx (putF "pages" (.ref pa) fs))) y (.ins (kC K fu) dx (putF "look" (.ref la) (putF "pages" (.ref pa) fs)))) := (Kp.wi h1 (by simp)).trans (Kp.wi upd_same (by simp))
    exact k _ pa la (k1.up.trans kk) upd_same (i1.kp kk) (i2.kp kk)

end
end TB
namespace TB
open PySem PySem.Spec PyProof.Rows L2
section
variable {P : Program} {w : World} {K : PySem.W.Frag} {mg : Str → Option Value} {base : Heap}

/-- what the pages of a yard are behind an edit -/
def app1 (gs : List Pg) (o : Option (List Int)) : List Pg := gs ++ [stp o (lastP gs)]
theorem last_app (gs : List Pg) (g : Pg) : lastP (gs ++ [g]) = g := by
  unfold lastP
  rw [List.getLastD_eq_getLast?, List.getLast?_concat]; rfl
theorem stp_ok {o : Option (List Int)} {g : Pg} {n : Nat} {f : Bool} (hB : Bx g.1.1 g.1.2 g.2) (hn : g.2.length = n) (hf : fillB g.1.1 g.1.2 g.2 = f) (ho : itOk n o) : Bx (stp o g).1.1 (stp o g).1.2 (stp o g).2 ∧ (stp o g).2.length = n ∧ fillB (stp o g).1.1 (stp o g).1.2 (stp o g).2 = f := by
  cases o with
  | none => exact ⟨hB.swap, hn, (fill_swap hB).trans hf⟩
  | some l =>
    subst hn
    exact ⟨hB.pm ho, (show (pm l g.2).length = g.2.length by simp [pm, ho.len]), (fill_pm hB ho).trans hf⟩
theorem Gd.app {fu f : Bool} {n : Nat} {gs : List Pg} {o : Option (List Int)} (h : Gd fu n f gs) (ho : itOk n o) (hl : gs.length < 20) : Gd fu n f (app1 gs o) := by
  refine ⟨by simp [app1], fun g hg => ?_, h.fu, by simp [app1]; omega⟩
  rcases List.mem_append.mp hg with hg | hg
  · exact h.bx g hg
  · obtain rfl := List.mem_singleton.mp hg
    exact stp_ok h.bl h.nl h.fl ho
theorem ssf (Y : Yrd K mg) {σ : L2.St} {H : Hp} {y dx : Addr} {fu : Bool} {fs : List (Str × V)} {f : Str} {i : Nat} {te : TE} {d : PyData} {D : Ends} (hv : σ[i]? = some (some (.ref y))) (h1 : H y = some (.ins (kC K fu) dx fs)) (na : NoAttr K (kC K fu) f) (hl : fs.length < 1000) (ha : DE K te σ H d)
    (k : ∀ v H1, Kp [] H H1 → Im K H1 v d → D.nx σ (upd H1 y (.ins (kC K fu) dx (putF f v fs)))) : sFld K (tVar i) te f D σ H :=
  ha H .refl _ fun v H1 k1 hd => ⟨_, hv, y, kC K fu, dx, fs, rfl, k1.get h1, (Y.kl fu).cl, na, hl, k v H1 k1 hd⟩
theorem qsf (Y : Yrd K mg) {σ : L2.St} {H : Hp} {y dx : Addr} {fu : Bool} {fs : List (Str × V)} {f : Str} {i : Nat} {te : TE} {tz : TS} {d : PyData} {D : Ends} (hv : σ[i]? = some (some (.ref y))) (h1 : H y = some (.ins (kC K fu) dx fs)) (na : NoAttr K (kC K fu) f) (hl : fs.length < 1000) (ha : DE K te σ H d)
    (k : ∀ v H1, Kp [] H H1 → Im K H1 v d → tz D σ (upd H1 y (.ins (kC K fu) dx (putF f v fs)))) : tSeq (sFld K (tVar i) te f) tz D σ H :=
  ssf Y (D := { D with nx := tz D }) hv h1 na hl ha k
theorem put_word (b : Bool) (pa la : Addr) : putF "word" (.str "same") (yF b pa la) = yF b pa la := rfl
theorem put_pl (b : Bool) (pa la pa' la' : Addr) : putF "look" (.ref la') (putF "pages" (.ref pa') (yF b pa la)) = yF b pa' la' := rfl
theorem yd_sort (b : Bool) (pa la : Addr) : (yF b pa la).lookup ("SORT" : Str) = none := rfl

abbrev nl_Y_tell : List Str := ["self", "was_filled", "is_now"]
theorem sc_Y_tell : FnScope nl_Y_tell ["self", "was_filled"] (defScope s_Y_tell) := ⟨rfl, rfl, rfl, by decide +kernel, rfl, by decide +kernel, by decide +kernel⟩
def sp_tell (K : PySem.W.Frag) : Sp := fun vs H Q _ => ∃ (y : Addr) (fu b f : Bool) (n : Nat) (gs : List Pg), vs = [.ref y, .bl f] ∧ Yd K H y fu b gs ∧ Gd fu n f gs ∧ ∀ H', Kp [y] H H' → Yd K H' y fu b gs → Q .non H'
theorem ok_Y_tell (T : Txt K mg) (B : Tab K w mg) (Y : Yrd K mg) : FnOk P w K mg base CX0 9 (He.ma K (He.ga K "Yard") "tell") (fdA K (He.ma K (He.ga K "Yard") "tell")) ["self", "was_filled"] (sp_tell K) := by
  refine T.f_Y_tell.ok sc_Y_tell (fun vs H Q E h => ?_) (fun cdv A outer s H vs Q E hr h => ?_)
  · obtain ⟨y, fu, b, f, n, gs, rfl, hy, hg, k⟩ := h
    rfl
  · have nd := sc_Y_tell.nd
    have hu := hr.units
    obtain ⟨y, fu, b, f, n, gs, rfl, hy, hg, k⟩ := h
    refine ⟨_, PSs.nox (pss_cons (ps_set (i := 2) nd rfl (Or.inl rfl) (pe_callTy (clBoolO (ok_Y_bool (K := K) T B Y) (hr.mono (by decide)) T.b_Y_bool pass0 (Y.kl fu).o_bool) (by rfl) T.n_bool (by decide +kernel) (pa_cons (pv 0) pa_nil)))
      (pss_one (psFld (K := K) rfl (pv 0) (pe_ifExp (pt_cmpR op_eq (pv 2) (pv 1) (nomark _)) (pe_glob (v := .str "same") rfl T.c_SAME.choose_spec ⟨_, rfl⟩) (pe_ifExp (pt_val (pv 2)) (pe_glob (v := .str "filled") rfl T.c_FILLED.choose_spec ⟨_, rfl⟩) (pe_glob (v := .str "barred") rfl T.c_BARRED.choose_spec ⟨_, rfl⟩)))))), ?_⟩
    refine qasg (K := K) (d := .bool f) (dBoolY rfl hy hg) fun v H1 k1 hv => ?_
    obtain rfl := hv.blI
    obtain ⟨dx, pa, la, h1, h2, h3⟩ := hy.up k1
    refine ssf Y rfl h1 (Y.kl fu).aW (by show 4 < 1000; decide) (dif (b := true) (d := .str "same") (DT.is (dtv (K := K) (deq (dv rfl (.bl f)) (dv rfl (.bl f)) rfl rfl rfl)) (by simp)) (fun _ => dstr) (fun e => nomatch e)) fun v H2 k2 hv => ?_
    obtain rfl := hv.strI
    have kk : Kp [y] H2 (upd H2 y (.ins (kC K fu) dx (putF "word" (.str "same") (yF b pa la)))) := Kp.wi (k2.get h1) (by simp)
    exact k _ (k1.up.trans (k2.up.trans kk)) ⟨dx, pa, la, upd_same, (h2.kp k2).kp kk, (h3.kp k2).kp kk⟩

end
end TB
namespace TB
open PySem PySem.Spec PyProof.Rows L2
section
variable {P : Program} {w : World} {K : PySem.W.Frag} {mg : Str → Option Value} {base : Heap}

def itN : Option (List Int) → Str
  | none => "swap"
  | some _ => "turn"
def itV : Option (List Int) → List PyData
  | none => []
  | some o => [tI o]
theorem itD_eq (o : Option (List Int)) : itD o = .tuple (.str (itN o) :: itV o) := by cases o <;> rfl
def deedA (K : PySem.W.Frag) : Option (List Int) → Addr
  | none => He.ga K "swapped"
  | some _ => He.ga K "turned"
def sp_deed (K : PySem.W.Frag) (o : Option (List Int)) : Sp := fun vs H Q _ => ∃ (vg : V) (a b x : List Int) (ws : List V), vs = vg :: ws ∧ Im K H vg (pageD ((a, b), x)) ∧ ImAll K H ws (itV o) ∧ Bx a b x ∧ itOk x.length o ∧ Ret K H Q (pageD (stp o ((a, b), x)))
theorem deed_ok (T : Txt K mg) (o : Option (List Int)) : FnR P w K mg base CX0 3 (deedA K o) (sp_deed K o) := by
  cases o with
  | none =>
    refine ((ok_swapped T).mono (by decide)).raw T.b_swapped .nil |>.imp fun vs H Q E h => ?_
    obtain ⟨vg, a, b, x, ws, rfl, i1, i2, B, ho, k⟩ := h
    cases i2
    exact ⟨vg, a, b, x, rfl, i1, k⟩
  | some l =>
    refine (ok_turned T).raw T.b_turned .nil |>.imp fun vs H Q E h => ?_
    obtain ⟨vg, a, b, x, ws, rfl, i1, i2, B, ho, k⟩ := h
    obtain ⟨v1, rfl, i3⟩ := i2.inv1
    exact ⟨vg, v1, a, b, x, l, rfl, i1, i3, B, ho, k⟩
theorem deed_kp (T : Txt K mg) (o : Option (List Int)) : PySem.W.keepIn K (.ref (deedA K o)) = true := by
  cases o with
  | none => exact T.f_swapped.kp
  | some l => exact T.f_turned.kp
theorem deed_at (B : Tab K w mg) (o : Option (List Int)) : ∃ u, PySem.W.nsIn K (He.ga K "DEEDS") (itN o) = some (some u) ∧ RelV (.ref (deedA K o)) u := by
  cases o with
  | none => exact B.d0
  | some l => exact B.d1
def sp_jdg (K : PySem.W.Frag) (fu : Bool) : Sp := fun vs H Q _ => ∃ (y : V) (vg : V) (a b x : List Int), vs = [y, vg] ∧ Im K H vg (pageD ((a, b), x)) ∧ Bx a b x ∧ (fu = true → fillB a b x = true) ∧ RetV H Q .non
theorem judge_ok (T : Txt K mg) (B : Tab K w mg) (Y : Yrd K mg) (fu : Bool) : FnOk P w K mg base CX0 5 (He.ma K (kC K fu) "judge") (fdA K (He.ma K (kC K fu) "judge")) ["self", "page"] (sp_jdg K fu) := by
  cases fu with
  | false =>
    refine FnOk.imp ((ok_Y_judge T B Y).mono (by decide)) fun vs H Q E h => ?_
    obtain ⟨y, vg, a, b, x, rfl, i1, hB, _, k⟩ := h
    exact ⟨y, vg, rfl, k⟩
  | true =>
    refine FnOk.imp (ok_F_judge T B Y) fun vs H Q E h => ?_
    obtain ⟨y, vg, a, b, x, rfl, i1, hB, hf, k⟩ := h
    exact ⟨y, vg, a, b, x, rfl, i1, hB, hf rfl, k⟩
theorem judge_b (T : Txt K mg) (fu : Bool) : Binds K (fdA K (He.ma K (kC K fu) "judge")) ["self", "page"] [] := by
  cases fu with
  | false => exact T.b_Y_judge
  | true => exact T.b_F_judge
theorem qdrop {σ : L2.St} {H : Hp} {te : TE} {tz : TS} {D : Ends} {d : PyData} (h : DE K te σ H d) (k : ∀ v H1, Kp [] H H1 → Im K H1 v d → tz D σ H1) : tSeq (tDrop te) tz D σ H := h H .refl _ k
theorem yl_judge (b : Bool) (pa la : Addr) : (yF b pa la).lookup ("judge" : Str) = none := rfl
theorem yl_stand (b : Bool) (pa la : Addr) : (yF b pa la).lookup ("stand" : Str) = none := rfl

abbrev nl_Y_do : List Str := ["self", "name", "values", "deed", "page"]
theorem sc_Y_do : FnScope nl_Y_do ["self", "name", "values"] (defScope s_Y_do) := ⟨rfl, rfl, rfl, by decide +kernel, rfl, by decide +kernel, by decide +kernel⟩
def sp_do (K : PySem.W.Frag) : Sp := fun vs H Q _ => ∃ (y : Addr) (vv : V) (fu b f : Bool) (n : Nat) (gs : List Pg) (o : Option (List Int)), vs = [.ref y, .str (itN o), vv] ∧ Im K H vv (.tuple (itV o)) ∧ Yd K H y fu b gs ∧ Gd fu n f gs ∧ itOk n o ∧ gs.length < 20 ∧
  ∀ H', Kp [y] H H' → Yd K H' y fu b (app1 gs o) → Q (.int (gs.length : Int)) H'
theorem ok_Y_do (T : Txt K mg) (B : Tab K w mg) (Y : Yrd K mg) : FnOk P w K mg base CX0 6 (He.ma K (He.ga K "Yard") "do") (fdA K (He.ma K (He.ga K "Yard") "do")) ["self", "name", "values"] (sp_do K) := by
  refine T.f_Y_do.ok sc_Y_do (fun vs H Q E h => ?_) (fun cdv A outer s H vs Q E hr h => ?_)
  · obtain ⟨y, vv, fu, b, f, n, gs, o, rfl, iv, hy, hg, ho, hl, k⟩ := h
    rfl
  · have nd := sc_Y_do.nd
    have hu := hr.units
    obtain ⟨y, vv, fu, b, f, n, gs, o, rfl, iv, hy, hg, ho, hl, k⟩ := h
    refine ⟨_, PSs.nox (pss_cons (ps_if (pt_cmpR op_ge (pe_prop (pv 0) (Y.kl fu).cl (Y.kl fu).p_version.choose_spec (ok_Y_version (K := K) T B Y) (hr.mono (by decide)) T.b_Y_version .nil pass0 (by rfl)) (pe_glob (v := .int 30) rfl T.c_HISTORY.choose_spec ⟨_, rfl⟩) (nomark _)) (pss_one ps_never) pss_nil)
      (pss_cons (ps_set (i := 3) nd rfl (Or.inl rfl) (pe_ix (ixKd (K := K) rfl rfl B.D) (pe_glob (v := .ref (He.ga K "DEEDS")) rfl B.gD rfl) (pv 1) (fun _ _ => rfl)))
      (pss_cons (ps_set (i := 4) nd rfl (Or.inl rfl) (peCallLS (i := 3) (deed_ok T o) (hr.mono (by decide)) rfl (Or.inl rfl) (deed_kp T o) pass0 (pa_cons (pe_ix (ixT (K := K) rfl) (peFld (K := K) rfl (pv 0)) (pe_un un_neg pe_int) (fun _ _ => rfl)) (StX.pa_star (pv 2) pa_nil))))
      (pss_cons (ps_expr (pe_meth (pv 0) (Y.kl fu).cl (Y.kl fu).mj (judge_ok T B Y fu) (hr.mono (by decide)) (judge_b T fu) .nil pass0 (pa_cons (pv 4) pa_nil)))
      (pss_cons (ps_expr (pe_meth (pv 0) (Y.kl fu).cl (Y.kl fu).m_stand (ok_Y_stand (K := K) T B Y) (hr.mono (by decide)) T.b_Y_stand .nil pass0 (pa_cons (pe_op (opCatA (K := K) rfl) (peFld (K := K) rfl (pv 0)) (pe_tup (pa_cons (pv 4) pa_nil))) pa_nil)))
      (pss_one (ps_ret (pe_prop (pv 0) (Y.kl fu).cl (Y.kl fu).p_version.choose_spec (ok_Y_version (K := K) T B Y) (hr.mono (by decide)) T.b_Y_version .nil pass0 (by rfl))))))))), ?_⟩
    have hB := hg.bl
    refine qif (b := false) (DT.is (dtv (K := K) (dB0 (dVers Y rfl hy) dint)) (by simp; omega)) (fun e => nomatch e) (fun _ H1 k1 => ?_)
    obtain ⟨u, hu1, hu2⟩ := deed_at B o
    refine ⟨_, rfl, itN o, u, .ref (deedA K o), rfl, rfl, hu1, hu2, ?_⟩
    refine ⟨rfl, ?_⟩
    refine (dix (dPages Y rfl (hy.up k1)) (dneg dint) (last_at hg.ne)) H1 .refl _ fun vg H2 k2 ig => ?_
    obtain ⟨pv0, xs, rfl, hs, hx⟩ := ((iv.kp k1).kp k2).tupI
    refine ⟨_, rfl, pv0, xs, rfl, .inl hs, ?_⟩
    have hn := hg.nl
    refine ⟨vg, (lastP gs).1.1, (lastP gs).1.2, (lastP gs).2, xs, by simp, ig, hx, hB, (by rw [hn]; exact ho), fun vp H3 k3 ip => ?_⟩
    have hG := stp_ok hB hn hg.fl ho
    refine qdrop (d := .none) (dMeth (ds := [pageD (stp o (lastP gs))]) rfl (hy.up (k1.trans (k2.trans k3))) (dacons (dv rfl ip) danil) (yl_judge b) fun vs H4 k4 hv Q4 q4 => ?_) fun _ H4 k4 _ => ?_
    · obtain ⟨v1, rfl, i1⟩ := hv.inv1
      exact ⟨_, v1, _, _, _, rfl, i1, hG.1, (fun e => hG.2.2.trans (hg.fu e)), fun H5 k5 => q4 _ H5 k5 .non⟩
    have k04 := k1.trans (k2.trans (k3.trans k4))
    obtain ⟨dx, pa, la, h1, h2, h3⟩ := hy.up k04
    refine ⟨_, rfl, y, dx, _, rfl, h1, yl_stand _ _ _, ?_⟩
    refine (dcat (dPages Y rfl (hy.up k04)) (dtup (dacons (dv rfl (ip.kp k4)) danil)) (by simp; omega)) H4 .refl _ fun vq H5 k5 iq => ?_
    refine ⟨y, dx, vq, fu, _, app1 gs o, rfl, k5.get h1, (by unfold app1; rw [List.map_append]; exact iq), by simp [app1], (by show 4 < 900; decide), yd_sort _ _ _, fun H6 pa' la' k6 h6 i6 j6 => ?_⟩
    have hy6 : Yd K H6 y fu b (app1 gs o) := ⟨dx, pa', la', h6, i6, j6⟩
    refine sretV (K := K) (d := .int (gs.length : Int)) (DE.is (dVers Y rfl hy6) (by simp [app1])) rfl fun H7 k7 => ?_
    exact k H7 (k04.up.trans (k5.up.trans (k6.trans k7.up))) (hy6.up k7)

end
end TB
namespace TB
open PySem PySem.Spec PyProof.Rows L2
section
variable {P : Program} {w : World} {K : PySem.W.Frag} {mg : Str → Option Value} {base : Heap}

/-- what an edit promises: Busy, or the pages one more -/
def EdP (K : PySem.W.Frag) (H : Hp) (Q : VK) (E : XK) (y : Addr) (fu b : Bool) (gs : List Pg) (nm : V) (ws : List V) : Prop :=
  (b = true → ∀ H', Kp [] H H' → E (.ref (He.ga K "Busy")) none H') ∧ (b = false → ∃ (f : Bool) (n : Nat) (o : Option (List Int)), nm = .str (itN o) ∧ ImAll K H ws (itV o) ∧ Gd fu n f gs ∧ itOk n o ∧ gs.length < 20 ∧
    ∀ H', Kp [y] H H' → Yd K H' y fu false (app1 gs o) → Q (.int (gs.length : Int)) H')
theorem EdP.kp {H H1 : Hp} {Q : VK} {E : XK} {y : Addr} {fu b : Bool} {gs : List Pg} {nm : V} {ws : List V} (h : EdP K H Q E y fu b gs nm ws) (k : Kp [] H H1) : EdP K H1 Q E y fu b gs nm ws :=
  ⟨fun e H' k' => h.1 e H' (k.trans k'), fun e => by
    obtain ⟨f, n, o, h1, h2, h3, h4, h5, h6⟩ := h.2 e
    exact ⟨f, n, o, h1, h2.kp k, h3, h4, h5, fun H' k' => h6 H' (k.up.trans k')⟩⟩
def sp_edit (K : PySem.W.Frag) : Sp := fun vs H Q E => ∃ (y : Addr) (nm : V) (ws : List V) (fu b : Bool) (gs : List Pg), vs = .ref y :: nm :: ws ∧ ws.length ≤ 1000 ∧ Yd K H y fu b gs ∧ EdP K H Q E y fu b gs nm ws
def sp_edit0 (K : PySem.W.Frag) : Sp := fun vs H Q E => ∃ (y p : Addr) (nm : V) (ws : List V) (fu b : Bool) (gs : List Pg), vs = [.ref y, nm, .ref p] ∧ H p = some (.tup ws) ∧ Yd K H y fu b gs ∧ EdP K H Q E y fu b gs nm ws
/-- a method that changes the yard or leaves with an error, read off a yard -/
theorem dMethX {σ : L2.St} {H : Hp} {y : Addr} {fu b : Bool} {gs : List Pg} {i : Nat} {m : Str} {sp : Sp} {E : XK} {ta : TA} {ds : List PyData} {Q : VK} (hv : σ[i]? = some (some (.ref y))) (h : Yd K H y fu b gs) (ha : DA K ta σ H ds) (hm : ∀ pa la, (yF b pa la).lookup m = none) (hs : ∀ vs H1, Kp [] H H1 → ImAll K H1 vs ds → sp (.ref y :: (vs ++ [])) H1 Q E) : tMeth (kC K fu) m sp [] E (tVar i) ta σ H Q := by
  obtain ⟨dx, pa, la, h1, h2, h3⟩ := h
  exact ⟨_, hv, y, dx, _, rfl, h1, hm pa la, ha H .refl _ fun vs H2 k2 hvs => hs vs H2 k2 hvs⟩
theorem yl_free (b : Bool) (pa la : Addr) : (yF b pa la).lookup ("require_free" : Str) = none := rfl
theorem yl_do (b : Bool) (pa la : Addr) : (yF b pa la).lookup ("do" : Str) = none := rfl
theorem yl_tell (b : Bool) (pa la : Addr) : (yF b pa la).lookup ("tell" : Str) = none := rfl
theorem yl_edit (b : Bool) (pa la : Addr) : (yF b pa la).lookup ("edit" : Str) = none := rfl
theorem EdP.name {H : Hp} {Q : VK} {E : XK} {y : Addr} {fu : Bool} {gs : List Pg} {nm : V} {ws : List V} (h : EdP K H Q E y fu false gs nm ws) : ∃ (f : Bool) (n : Nat) (o : Option (List Int)), nm = .str (itN o) ∧ ImAll K H ws (itV o) ∧ Gd fu n f gs ∧ itOk n o ∧ gs.length < 20 ∧ ∀ H', Kp [y] H H' → Yd K H' y fu false (app1 gs o) → Q (.int (gs.length : Int)) H' := h.2 rfl

abbrev nl_Y_edit : List Str := ["self", "name", "values", "was_filled", "version"]
theorem sc_Y_edit : FnScope nl_Y_edit ["self", "name", "values"] (defScope s_Y_edit) := ⟨rfl, rfl, rfl, by decide +kernel, rfl, by decide +kernel, by decide +kernel⟩

theorem ok_Y_edit (T : Txt K mg) (B : Tab K w mg) (Y : Yrd K mg) : FnR P w K mg base (L2.CX P w) 10 (He.ma K (He.ga K "Yard") "edit") (sp_edit K) := by
  obtain ⟨oc, od, dV, kV, doc, pm, an, cdv, ct, osl, e0, lk, hcd, hD, _⟩ := T.f_Y_edit.ex
  rw [e0] at lk
  rcases hD with ⟨_, rfl⟩ | ⟨e, _⟩
  rotate_left
  · exact absurd rfl e
  refine (StX.fn_star (ps := ["self", "name"]) (pv := "values") (sp := sp_edit0 K) (k := 9) lk hcd sc_Y_edit StX.cxUp (StX.bind_star2 (B := fun us => bindArgs (PySem.W.fnOf "edit" "Yard.edit" (defArgs s_Y_edit) (defBody s_Y_edit) (defScope s_Y_edit) .none kV doc pm an cdv ct) ⟨us, []⟩) (p1 := "self") (p2 := "name") (pv := "values") (fun a b => rfl) (fun a b r rs => rfl)) (fun A outer s H vs Q E hr h => ?_)).imp fun vs H Q E h => ?_
  · have nd := sc_Y_edit.nd
    have hu := hr.units
    obtain ⟨y, p, nm, ws, fu, b, gs, rfl, hp, hy, h⟩ := h
    refine ⟨_, (pss_cons (ps_expr (pe_meth0 (pv 0) (Y.kl fu).cl (Y.kl fu).m_require_free (ok_Y_require_free (K := K) T B Y) (hr.mono (by decide)) T.b_Y_require_free .nil (passes_call (takes_of rfl rfl rfl rfl) (fun _ _ _ _ h => h))))
      (pss_cons (ps_set (i := 3) nd rfl (Or.inl rfl) (pe_callTy (clBoolO (ok_Y_bool (K := K) T B Y) (hr.mono (by decide)) T.b_Y_bool pass0 (Y.kl fu).o_bool) (by rfl) T.n_bool (by decide +kernel) (pa_cons (pv 0) pa_nil)))
      (pss_cons (ps_set (i := 4) nd rfl (Or.inl rfl) (pe_meth (pv 0) (Y.kl fu).cl (Y.kl fu).m_do (ok_Y_do (K := K) T B Y) (hr.mono (by decide)) T.b_Y_do .nil pass0 (pa_cons (pv 1) (pa_cons (pv 2) pa_nil))))
      (pss_cons (ps_expr (pe_meth (pv 0) (Y.kl fu).cl (Y.kl fu).m_tell (ok_Y_tell (K := K) T B Y) (hr.mono (by decide)) T.b_Y_tell .nil pass0 (pa_cons (pv 3) pa_nil)))
      (pss_one (ps_ret (pv 4))))))), ?_⟩
    cases b with
    | true =>
      exact dMethX rfl hy (m := "require_free") danil (yl_free true) fun vs H1 k1 hv => by
        cases hv
        exact ⟨y, fu, true, gs, rfl, hy.up k1, (fun _ H2 k2 => h.1 rfl H2 (k1.trans k2)), (fun e => nomatch e)⟩
    | false =>
      obtain ⟨f, n, o, rfl, iw, hg, ho, hl, k⟩ := h.2 rfl
      refine qdrop (d := .none) (dMeth rfl hy (m := "require_free") danil (yl_free false) fun vs H1 k1 hv Q1 q1 => ?_) fun _ H1 k1 _ => ?_
      · cases hv
        exact ⟨y, fu, false, gs, rfl, hy.up k1, (fun e => nomatch e), (fun _ H2 k2 => q1 _ H2 k2 .non)⟩
      refine qasg (d := .bool f) (dBoolY rfl (hy.up k1) hg) fun v H2 k2 hv => ?_
      obtain rfl := hv.blI
      have ip : Im K H2 (.ref p) (.tuple (itV o)) := .tup (SqT.of (k2.get (k1.get hp))) ((iw.kp k1).kp k2)
      refine dMethX rfl ((hy.up k1).up k2) (m := "do") (dacons (dv rfl (.str (itN o))) (dacons (dv rfl ip) danil)) (yl_do false) fun vs H3 k3 hv => ?_
      obtain ⟨v1, v2, rfl, i1, i2⟩ := hv.inv2
      obtain rfl := i1.strI
      refine ⟨y, v2, fu, false, f, n, gs, o, rfl, i2, ((hy.up k1).up k2).up k3, hg, ho, hl, fun H4 k4 hy4 => ?_⟩
      refine dMethX rfl hy4 (m := "tell") (dacons (dv rfl (.bl f)) danil) (yl_tell false) fun vs H5 k5 hv => ?_
      obtain ⟨v1, rfl, i1⟩ := hv.inv1
      obtain rfl := i1.blI
      refine ⟨y, fu, false, f, n, app1 gs o, rfl, hy4.up k5, hg.app ho hl, fun H6 k6 hy6 => ?_⟩
      exact sretV (K := K) (d := .int (gs.length : Int)) (dv rfl (.int _)) rfl fun H7 k7 => k H7 (k1.up.trans (k2.up.trans (k3.up.trans (k4.trans (k5.up.trans (k6.trans k7.up)))))) (hy6.up k7)
  · obtain ⟨y, nm, ws, fu, b, gs, rfl, hl, hy, k⟩ := h
    refine ⟨[.ref y, nm], ws, rfl, rfl, by rw [sizeLine_eq]; omega, fun p hp => ?_⟩
    exact ⟨y, p, nm, ws, fu, b, gs, rfl, upd_same, hy.up (.new hp), k.kp (.new hp)⟩

end
end TB
namespace TB
open PySem PySem.Spec PyProof.Rows L2
section
variable {P : Program} {w : World} {K : PySem.W.Frag} {mg : Str → Option Value} {base : Heap}

def sp_swap (K : PySem.W.Frag) : Sp := fun vs H Q E => ∃ (y : Addr) (fu b : Bool) (gs : List Pg), vs = [.ref y] ∧ Yd K H y fu b gs ∧ EdP K H Q E y fu b gs (.str "swap") []
def sp_turn (K : PySem.W.Frag) : Sp := fun vs H Q E => ∃ (y : Addr) (vo : V) (fu b : Bool) (gs : List Pg), vs = [.ref y, vo] ∧ Yd K H y fu b gs ∧ EdP K H Q E y fu b gs (.str "turn") [vo]
def sp_side (K : PySem.W.Frag) : Sp := fun vs H Q E => ∃ (y : Addr) (v1 v2 : V) (fu : Bool) (gs : List Pg), vs = [.ref y, v1, v2] ∧ Yd K H y fu true gs ∧ ∀ H', Kp [] H H' → E (.ref (He.ga K "Busy")) none H'
def sp_brick (K : PySem.W.Frag) : Sp := fun vs H Q E => ∃ (y : Addr) (v1 v2 v3 : V) (fu : Bool) (gs : List Pg), vs = [.ref y, v1, v2, v3] ∧ Yd K H y fu true gs ∧ ∀ H', Kp [] H H' → E (.ref (He.ga K "Busy")) none H'
def sp_iadd (K : PySem.W.Frag) : Sp := fun vs H Q E => ∃ (y : Addr) (v1 : V) (fu : Bool) (gs : List Pg), vs = [.ref y, v1] ∧ Yd K H y fu true gs ∧ ∀ H', Kp [] H H' → E (.ref (He.ga K "Busy")) none H'
theorem EdP.busy {H : Hp} {Q : VK} {E : XK} {y : Addr} {fu : Bool} {gs : List Pg} {nm : V} {ws : List V} (h : ∀ H', Kp [] H H' → E (.ref (He.ga K "Busy")) none H') : EdP K H Q E y fu true gs nm ws := ⟨fun _ => h, (fun e => nomatch e)⟩
/-- the plain values that an expression's places hold -/
theorem da_v1 {σ : L2.St} {H : Hp} {i : Nat} {v : V} {Q : List V → Hp → Prop} (h : σ[i]? = some (some v)) (q : Q [v] H) : tCons (tVar i) tNil σ H Q := ⟨v, h, q⟩
theorem yl_side (b : Bool) (pa la : Addr) : (yF b pa la).lookup ("side" : Str) = none := rfl

abbrev nl_Y_swap : List Str := ["self"]
theorem sc_Y_swap : FnScope nl_Y_swap ["self"] (defScope s_Y_swap) := ⟨rfl, rfl, rfl, by decide +kernel, rfl, by decide +kernel, by decide +kernel⟩

theorem ok_Y_swap (T : Txt K mg) (B : Tab K w mg) (Y : Yrd K mg) : FnOk P w K mg base (L2.CX P w) 11 (He.ma K (He.ga K "Yard") "swap") (fdA K (He.ma K (He.ga K "Yard") "swap")) ["self"] (sp_swap K) := by
  refine T.f_Y_swap.ok sc_Y_swap (fun vs H Q E h => ?_) (fun cdv A outer s H vs Q E hr h => ?_)
  · obtain ⟨y, fu, b, gs, rfl, hy, k⟩ := h
    rfl
  · have nd := sc_Y_swap.nd
    have hu := hr.units
    obtain ⟨y, fu, b, gs, rfl, hy, k⟩ := h
    refine ⟨_, (pss_one (ps_ret (peMethR (pv 0) (Y.kl fu).cl (Y.kl fu).m_edit (ok_Y_edit (K := K) T B Y) (hr.mono (by decide)) (passes_call (takes_of rfl rfl rfl rfl) (fun _ _ _ _ h => h)) (pa_cons pe_str pa_nil)))), ?_⟩
    exact dMethX rfl hy (m := "edit") (dacons dstr danil) (yl_edit b) fun vs H1 k1 hv => by
      obtain ⟨v1, rfl, i1⟩ := hv.inv1
      obtain rfl := i1.strI
      exact ⟨y, _, [], fu, b, gs, rfl, by simp, hy.up k1, k.kp k1⟩

abbrev nl_Y_turn : List Str := ["self", "order"]
theorem sc_Y_turn : FnScope nl_Y_turn ["self", "order"] (defScope s_Y_turn) := ⟨rfl, rfl, rfl, by decide +kernel, rfl, by decide +kernel, by decide +kernel⟩

theorem ok_Y_turn (T : Txt K mg) (B : Tab K w mg) (Y : Yrd K mg) : FnOk P w K mg base (L2.CX P w) 11 (He.ma K (He.ga K "Yard") "turn") (fdA K (He.ma K (He.ga K "Yard") "turn")) ["self", "order"] (sp_turn K) := by
  refine T.f_Y_turn.ok sc_Y_turn (fun vs H Q E h => ?_) (fun cdv A outer s H vs Q E hr h => ?_)
  · obtain ⟨y, vo, fu, b, gs, rfl, hy, k⟩ := h
    rfl
  · have nd := sc_Y_turn.nd
    have hu := hr.units
    obtain ⟨y, vo, fu, b, gs, rfl, hy, k⟩ := h
    refine ⟨_, (pss_one (ps_ret (peMethR (pv 0) (Y.kl fu).cl (Y.kl fu).m_edit (ok_Y_edit (K := K) T B Y) (hr.mono (by decide)) (passes_call (takes_of rfl rfl rfl rfl) (fun _ _ _ _ h => h)) (pa_cons pe_str (pa_cons (pv 1) pa_nil))))), ?_⟩
    have hy0 := hy
    obtain ⟨dx, pa, la, h1, h2, h3⟩ := hy
    exact ⟨_, rfl, y, dx, _, rfl, h1, yl_edit b _ _, _, rfl, y, _, [vo], fu, b, gs, rfl, by simp, hy0, k⟩

abbrev nl_Y_side : List Str := ["self", "axis", "number"]
theorem sc_Y_side : FnScope nl_Y_side ["self", "axis", "number"] (defScope s_Y_side) := ⟨rfl, rfl, rfl, by decide +kernel, rfl, by decide +kernel, by decide +kernel⟩

theorem ok_Y_side (T : Txt K mg) (B : Tab K w mg) (Y : Yrd K mg) : FnOk P w K mg base (L2.CX P w) 11 (He.ma K (He.ga K "Yard") "side") (fdA K (He.ma K (He.ga K "Yard") "side")) ["self", "axis", "number"] (sp_side K) := by
  refine T.f_Y_side.ok sc_Y_side (fun vs H Q E h => ?_) (fun cdv A outer s H vs Q E hr h => ?_)
  · obtain ⟨y, v1, v2, fu, gs, rfl, hy, k⟩ := h
    rfl
  · have nd := sc_Y_side.nd
    have hu := hr.units
    obtain ⟨y, v1, v2, fu, gs, rfl, hy, k⟩ := h
    refine ⟨_, (pss_one (ps_ret (peMethR (pv 0) (Y.kl fu).cl (Y.kl fu).m_edit (ok_Y_edit (K := K) T B Y) (hr.mono (by decide)) (passes_call (takes_of rfl rfl rfl rfl) (fun _ _ _ _ h => h)) (pa_cons pe_str (pa_cons (pv 1) (pa_cons (pv 2) pa_nil)))))), ?_⟩
    have hy0 := hy
    obtain ⟨dx, pa, la, h1, h2, h3⟩ := hy
    exact ⟨_, rfl, y, dx, _, rfl, h1, yl_edit true _ _, _, rfl, _, rfl, y, _, [v1, v2], fu, true, gs, rfl, by simp, hy0, .busy k⟩

abbrev nl_Y_brick : List Str := ["self", "kind", "axis", "number"]
theorem sc_Y_brick : FnScope nl_Y_brick ["self", "kind", "axis", "number"] (defScope s_Y_brick) := ⟨rfl, rfl, rfl, by decide +kernel, rfl, by decide +kernel, by decide +kernel⟩

theorem ok_Y_brick (T : Txt K mg) (B : Tab K w mg) (Y : Yrd K mg) : FnOk P w K mg base (L2.CX P w) 11 (He.ma K (He.ga K "Yard") "brick") (fdA K (He.ma K (He.ga K "Yard") "brick")) ["self", "kind", "axis", "number"] (sp_brick K) := by
  refine T.f_Y_brick.ok sc_Y_brick (fun vs H Q E h => ?_) (fun cdv A outer s H vs Q E hr h => ?_)
  · obtain ⟨y, v1, v2, v3, fu, gs, rfl, hy, k⟩ := h
    rfl
  · have nd := sc_Y_brick.nd
    have hu := hr.units
    obtain ⟨y, v1, v2, v3, fu, gs, rfl, hy, k⟩ := h
    refine ⟨_, (pss_one (ps_ret (peMethR (pv 0) (Y.kl fu).cl (Y.kl fu).m_edit (ok_Y_edit (K := K) T B Y) (hr.mono (by decide)) (passes_call (takes_of rfl rfl rfl rfl) (fun _ _ _ _ h => h)) (pa_cons pe_str (pa_cons (pv 1) (pa_cons (pv 2) (pa_cons (pv 3) pa_nil))))))), ?_⟩
    have hy0 := hy
    obtain ⟨dx, pa, la, h1, h2, h3⟩ := hy
    exact ⟨_, rfl, y, dx, _, rfl, h1, yl_edit true _ _, _, rfl, _, rfl, _, rfl, y, _, [v1, v2, v3], fu, true, gs, rfl, by simp, hy0, .busy k⟩

abbrev nl_Y_setitem : List Str := ["self", "axis", "number"]
theorem sc_Y_setitem : FnScope nl_Y_setitem ["self", "axis", "number"] (defScope s_Y_setitem) := ⟨rfl, rfl, rfl, by decide +kernel, rfl, by decide +kernel, by decide +kernel⟩

theorem ok_Y_setitem (T : Txt K mg) (B : Tab K w mg) (Y : Yrd K mg) : FnOk P w K mg base (L2.CX P w) 12 (He.ma K (He.ga K "Yard") "__setitem__") (fdA K (He.ma K (He.ga K "Yard") "__setitem__")) ["self", "axis", "number"] (sp_side K) := by
  refine T.f_Y_setitem.ok sc_Y_setitem (fun vs H Q E h => ?_) (fun cdv A outer s H vs Q E hr h => ?_)
  · obtain ⟨y, v1, v2, fu, gs, rfl, hy, k⟩ := h
    rfl
  · have nd := sc_Y_setitem.nd
    have hu := hr.units
    obtain ⟨y, v1, v2, fu, gs, rfl, hy, k⟩ := h
    refine ⟨_, (pss_one (ps_expr (pe_meth (pv 0) (Y.kl fu).cl (Y.kl fu).m_side (ok_Y_side (K := K) T B Y) (hr.mono (by decide)) T.b_Y_side .nil (passes_call (takes_of rfl rfl rfl rfl) (fun _ _ _ _ h => h)) (pa_cons (pv 1) (pa_cons (pv 2) pa_nil))))), ?_⟩
    have hy0 := hy
    obtain ⟨dx, pa, la, h1, h2, h3⟩ := hy
    exact ⟨_, rfl, y, dx, _, rfl, h1, yl_side true _ _, _, rfl, _, rfl, y, v1, v2, fu, gs, rfl, hy0, k⟩

abbrev nl_Y_iadd : List Str := ["self", "number"]
theorem sc_Y_iadd : FnScope nl_Y_iadd ["self", "number"] (defScope s_Y_iadd) := ⟨rfl, rfl, rfl, by decide +kernel, rfl, by decide +kernel, by decide +kernel⟩

theorem ok_Y_iadd (T : Txt K mg) (B : Tab K w mg) (Y : Yrd K mg) : FnOk P w K mg base (L2.CX P w) 11 (He.ma K (He.ga K "Yard") "__iadd__") (fdA K (He.ma K (He.ga K "Yard") "__iadd__")) ["self", "number"] (sp_iadd K) := by
  refine T.f_Y_iadd.ok sc_Y_iadd (fun vs H Q E h => ?_) (fun cdv A outer s H vs Q E hr h => ?_)
  · obtain ⟨y, v1, fu, gs, rfl, hy, k⟩ := h
    rfl
  · have nd := sc_Y_iadd.nd
    have hu := hr.units
    obtain ⟨y, v1, fu, gs, rfl, hy, k⟩ := h
    refine ⟨_, (pss_cons (ps_expr (peMethR (pv 0) (Y.kl fu).cl (Y.kl fu).m_edit (ok_Y_edit (K := K) T B Y) (hr.mono (by decide)) (passes_call (takes_of rfl rfl rfl rfl) (fun _ _ _ _ h => h)) (pa_cons pe_str (pa_cons (pv 1) pa_nil))))
      (pss_one (ps_ret (pv 0)))), ?_⟩
    have hy0 := hy
    obtain ⟨dx, pa, la, h1, h2, h3⟩ := hy
    exact ⟨_, rfl, y, dx, _, rfl, h1, yl_edit true _ _, _, rfl, y, _, [v1], fu, true, gs, rfl, by simp, hy0, .busy k⟩


theorem cut_last {α : Type} (l : List α) (h : l ≠ []) : cutD l none (some (-1)) = l.dropLast := by
  have := List.length_pos_iff.mpr h
  have e1 : HT.sIx l.length 0 none = 0 := rfl
  have e2 : HT.sIx l.length l.length (some (-1)) = l.length - 1 := by
    show (if (-1 : Int) < 0 then ((-1 : Int) + (l.length : Int)).toNat else min (-1 : Int).toNat l.length) = _
    rw [if_pos (by decide)]
    omega
  unfold cutD
  rw [e1, e2, List.drop_zero, Nat.sub_zero, List.dropLast_eq_take]
theorem Gd.drop {fu f : Bool} {n : Nat} {gs : List Pg} (h : Gd fu n f gs) (hl : 2 ≤ gs.length) : Gd fu n f gs.dropLast := by
  refine ⟨fun e => ?_, fun g hg => h.bx g (List.dropLast_subset _ hg), h.fu, by have := h.le; simp; omega⟩
  have := congrArg List.length e
  simp at this
  omega
/-- what undo promises -/
def UnP (K : PySem.W.Frag) (H : Hp) (Q : VK) (E : XK) (y : Addr) (fu b : Bool) (gs : List Pg) : Prop :=
  (b = true → ∀ H', Kp [] H H' → E (.ref (He.ga K "Busy")) none H') ∧ (b = false → ∃ (f : Bool) (n : Nat), Gd fu n f gs ∧ 2 ≤ gs.length ∧
    ∀ H', Kp [y] H H' → Yd K H' y fu false gs.dropLast → Q (.int ((gs.length : Int) - 2)) H')
def sp_undo (K : PySem.W.Frag) : Sp := fun vs H Q E => ∃ (y : Addr) (fu b : Bool) (gs : List Pg), vs = [.ref y] ∧ Yd K H y fu b gs ∧ UnP K H Q E y fu b gs

abbrev nl_Y_undo : List Str := ["self", "was_filled"]
theorem sc_Y_undo : FnScope nl_Y_undo ["self"] (defScope s_Y_undo) := ⟨rfl, rfl, rfl, by decide +kernel, rfl, by decide +kernel, by decide +kernel⟩

theorem ok_Y_undo (T : Txt K mg) (B : Tab K w mg) (Y : Yrd K mg) : FnOk P w K mg base (L2.CX P w) 10 (He.ma K (He.ga K "Yard") "undo") (fdA K (He.ma K (He.ga K "Yard") "undo")) ["self"] (sp_undo K) := by
  refine T.f_Y_undo.ok sc_Y_undo (fun vs H Q E h => ?_) (fun cdv A outer s H vs Q E hr h => ?_)
  · obtain ⟨y, fu, b, gs, rfl, hy, h⟩ := h
    rfl
  · have nd := sc_Y_undo.nd
    have hu := hr.units
    obtain ⟨y, fu, b, gs, rfl, hy, h⟩ := h
    refine ⟨_, (pss_cons (ps_expr (pe_meth0 (pv 0) (Y.kl fu).cl (Y.kl fu).m_require_free (ok_Y_require_free (K := K) T B Y) (hr.mono (by decide)) T.b_Y_require_free .nil (passes_call (takes_of rfl rfl rfl rfl) (fun _ _ _ _ h => h))))
      (pss_cons (ps_if (pt_cmpR op_eq (pe_prop (pv 0) (Y.kl fu).cl (Y.kl fu).p_version.choose_spec (ok_Y_version (K := K) T B Y) (hr.mono (by decide)) T.b_Y_version .nil pass0 (by rfl)) pe_int (nomark _)) (pss_one ps_never) pss_nil)
      (pss_cons (ps_set (i := 1) nd rfl (Or.inl rfl) (pe_callTy (clBoolO (ok_Y_bool (K := K) T B Y) (hr.mono (by decide)) T.b_Y_bool pass0 (Y.kl fu).o_bool) (by rfl) T.n_bool (by decide +kernel) (pa_cons (pv 0) pa_nil)))
      (pss_cons (ps_expr (pe_meth (pv 0) (Y.kl fu).cl (Y.kl fu).m_stand (ok_Y_stand (K := K) T B Y) (hr.mono (by decide)) T.b_Y_stand .nil pass0 (pa_cons (pe_slice (slA (K := K) rfl) (peFld (K := K) rfl (pv 0)) po_none (po_some (pe_un un_neg pe_int))) pa_nil)))
      (pss_cons (ps_expr (pe_meth (pv 0) (Y.kl fu).cl (Y.kl fu).m_tell (ok_Y_tell (K := K) T B Y) (hr.mono (by decide)) T.b_Y_tell .nil pass0 (pa_cons (pv 1) pa_nil)))
      (pss_one (ps_ret (pe_prop (pv 0) (Y.kl fu).cl (Y.kl fu).p_version.choose_spec (ok_Y_version (K := K) T B Y) (hr.mono (by decide)) T.b_Y_version .nil pass0 (by rfl))))))))), ?_⟩
    cases b with
    | true =>
      exact dMethX rfl hy (m := "require_free") danil (yl_free true) fun vs H1 k1 hv => by
        cases hv
        exact ⟨y, fu, true, gs, rfl, hy.up k1, (fun _ H2 k2 => h.1 rfl H2 (k1.trans k2)), (fun e => nomatch e)⟩
    | false =>
      obtain ⟨f, n, hg, hl, k⟩ := h.2 rfl
      refine qdrop (d := .none) (dMeth rfl hy (m := "require_free") danil (yl_free false) fun vs H1 k1 hv Q1 q1 => ?_) fun _ H1 k1 _ => ?_
      · cases hv
        exact ⟨y, fu, false, gs, rfl, hy.up k1, (fun e => nomatch e), (fun _ H2 k2 => q1 _ H2 k2 .non)⟩
      refine qif (b := false) (DT.is (dtv (K := K) (deq (dVers Y rfl (hy.up k1)) dint rfl rfl rfl)) (by simp; omega)) (fun e => nomatch e) (fun _ H2 k2 => ?_)
      have hy2 := (hy.up k1).up k2
      refine qasg (K := K) (d := .bool f) (dBoolY rfl hy2 hg) fun v H3 k3 hv => ?_
      obtain rfl := hv.blI
      have hy3 := hy2.up k3
      have hd := hg.drop hl
      refine dMethX rfl hy3 (m := "stand") (dacons (dslT (dPages Y rfl hy3) donone (dosome (K := K) (dneg dint))) danil) (yl_stand false) fun vs H4 k4 hv => ?_
      obtain ⟨v1, rfl, i1⟩ := hv.inv1
      have hgn := hg.ne
      rw [cutD_map, cut_last _ hgn] at i1
      obtain ⟨dx, pa, la, h1, h2, h3⟩ := hy3.up k4
      refine ⟨y, dx, v1, fu, _, gs.dropLast, rfl, h1, i1, hd.ne, (by show 4 < 900; decide), yd_sort _ _ _, fun H5 pa' la' k5 h5 i5 j5 => ?_⟩
      have hy5 : Yd K H5 y fu false gs.dropLast := ⟨dx, pa', la', h5, i5, j5⟩
      refine dMethX rfl hy5 (m := "tell") (dacons (dv rfl (.bl f)) danil) (yl_tell false) fun vs H6 k6 hv => ?_
      obtain ⟨v1, rfl, i1⟩ := hv.inv1
      obtain rfl := i1.blI
      refine ⟨y, fu, false, f, n, _, rfl, hy5.up k6, hd, fun H7 k7 hy7 => ?_⟩
      exact sretV (K := K) (d := .int ((gs.length : Int) - 2)) (DE.is (dVers Y rfl hy7) (by simp; omega)) rfl fun H8 k8 => k H8 (k1.up.trans (k2.up.trans (k3.up.trans (k4.up.trans (k5.trans (k6.up.trans (k7.trans k8.up))))))) (hy7.up k8)

end
end TB
namespace TB
open PySem PySem.Spec PyProof.Rows L2
section
variable {P : Program} {w : World} {K : PySem.W.Frag} {mg : Str → Option Value} {base : Heap}

theorem qasgG {σ : L2.St} {H : Hp} {te : TE} {tz : TS} {D : Ends} {d : PyData} {g : TG} (h : DE K te σ H d) (k : ∀ v H1, Kp [] H H1 → Im K H1 v d → g v σ H1 (fun σ' H' => tz D σ' H')) : tSeq (tAsg te g) tz D σ H := h H .refl _ k

abbrev nl_Y_init : List Str := ["self", "pair", "box", "error"]
theorem sc_Y_init : FnScope nl_Y_init ["self", "pair", "box"] (defScope s_Y_init) := ⟨rfl, rfl, rfl, by decide +kernel, rfl, by decide +kernel, by decide +kernel⟩
def sp_Y_init (K : PySem.W.Frag) : Sp := fun vs H Q _ => ∃ (y dx : Addr) (vp vx : V) (fu : Bool) (a b x : List Int), vs = [.ref y, vp, vx] ∧ H y = some (.ins (kC K fu) dx []) ∧ Im K H vp (pairD (a, b)) ∧ Im K H vx (tI x) ∧ Bx a b x ∧ ∀ H', Kp [y] H H' → Yd K H' y fu false [((a, b), x)] → Q .non H'
theorem ok_Y_init (T : Txt K mg) (B : Tab K w mg) (Y : Yrd K mg) : FnOk P w K mg base CX0 5 (He.ma K (He.ga K "Yard") "__init__") (fdA K (He.ma K (He.ga K "Yard") "__init__")) ["self", "pair", "box"] (sp_Y_init K) := by
  refine T.f_Y_init.ok sc_Y_init (fun vs H Q E h => ?_) (fun cdv A outer s H vs Q E hr h => ?_)
  · obtain ⟨y, dx, vp, vx, fu, a, b, x, rfl, hy, ip, ix, hB, k⟩ := h
    rfl
  · have nd := sc_Y_init.nd
    have hu := hr.units
    obtain ⟨y, dx, vp, vx, fu, a, b, x, rfl, hy, ip, ix, hB, k⟩ := h
    refine ⟨_, PSs.nox (pss_cons (ps_set (i := 3) nd rfl (Or.inl rfl) (pe_call (ok_pair_error T) (hr.mono (by decide)) (by rfl) T.g_pair_error (T.f_pair_error.kp) (T.b_pair_error) .nil pass0 (pa_cons (pv 1) pa_nil)))
      (pss_cons (ps_if (pt_cmpR op_notN (pv 3) pe_non (nomark _)) (pss_one ps_never) pss_nil)
      (pss_cons (ps_set (i := 3) nd rfl (Or.inl rfl) (pe_call (ok_box_error T) (hr.mono (by decide)) (by rfl) T.g_box_error (T.f_box_error.kp) (T.b_box_error) .nil pass0 (pa_cons (pv 1) (pa_cons (pv 2) pa_nil))))
      (pss_cons (ps_if (pt_cmpR op_notN (pv 3) pe_non (nomark _)) (pss_one ps_never) pss_nil)
      (pss_cons (ps_asg (pe_tup (pa_cons (pe_glob (v := .str "same") rfl T.c_SAME.choose_spec ⟨_, rfl⟩) (pa_cons pe_bl pa_nil))) (pgT (K := K) (n := 2) rfl rfl (pgs_cons (pgAt (K := K) rfl (pv 0)) (pgs_cons (pgAt (K := K) rfl (pv 0)) pgs_nil))))
      (pss_one (ps_expr (pe_meth (pv 0) (Y.kl fu).cl (Y.kl fu).m_stand (ok_Y_stand (K := K) T B Y) (hr.mono (by decide)) T.b_Y_stand .nil pass0 (pa_cons (pe_tup (pa_cons (pe_tup (pa_cons (pv 1) (pa_cons (pv 2) pa_nil))) pa_nil)) pa_nil))))))))), ?_⟩
    refine qasg (K := K) (d := .none) (dcall (ds := [pairD (a, b)]) (dacons (dv rfl ip) danil) fun vs H1 k1 hv Q1 q1 => ?_) fun v H1 k1 hv => ?_
    · obtain ⟨v1, rfl, i1⟩ := hv.inv1
      exact ⟨v1, a, b, x, rfl, i1, hB, fun H2 k2 => q1 _ H2 k2 .non⟩
    obtain rfl := hv.nonI
    refine qif (b := false) (DT.is (dtv (K := K) (dnotN (dv rfl .non))) rfl) (fun e => nomatch e) (fun _ H2 k2 => ?_)
    refine qasg (K := K) (d := .none) (dcall (ds := [pairD (a, b), tI x]) (dacons (dv rfl ((ip.kp k1).kp k2)) (dacons (dv rfl ((ix.kp k1).kp k2)) danil)) fun vs H3 k3 hv Q1 q1 => ?_) fun v H3 k3 hv => ?_
    · obtain ⟨v1, v2, rfl, i1, i2⟩ := hv.inv2
      exact ⟨v1, v2, a, b, x, rfl, i1, i2, hB, fun H2 k2 => q1 _ H2 k2 .non⟩
    obtain rfl := hv.nonI
    refine qif (b := false) (DT.is (dtv (K := K) (dnotN (dv rfl .non))) rfl) (fun e => nomatch e) (fun _ H4 k4 => ?_)
    refine qasgG (K := K) (dtup (dacons dstr (dacons dbl danil))) fun v H5 k5 hv => ?_
    obtain ⟨q, xs, rfl, hq, hx⟩ := hv.tupI
    obtain ⟨v1, v2, rfl, i1, i2⟩ := hx.inv2
    obtain rfl := i1.strI
    obtain rfl := i2.blI
    have k05 := k1.trans (k2.trans (k3.trans (k4.trans k5)))
    have h5 := k05.get hy
    refine ⟨q, _, rfl, hq, rfl, _, _, rfl, _, rfl, y, kC K fu, dx, _, rfl, h5, (Y.kl fu).cl, (Y.kl fu).aW, (by show 0 < 1000; decide), _, _, rfl, _, rfl, y, kC K fu, dx, _, rfl, upd_same, (Y.kl fu).cl, (Y.kl fu).aB, (by show 1 < 1000; decide), rfl, ?_⟩
    have kk : Kp [y] H5 (upd (upd H5 y (.ins (kC K fu) dx [("word", .str "same")])) y (.ins (kC K fu) dx [("word", .str "same"), ("is_busy", .bl false)])) := (Kp.wi h5 (by simp)).trans (Kp.wi upd_same (by simp))
    have ka := (k05.up (l := [y])).trans kk
    refine ⟨_, rfl, y, dx, _, rfl, upd_same, rfl, ?_⟩
    refine (dtup (K := K) (dacons (dtup (dacons (dv rfl (ip.kp ka)) (dacons (dv rfl (ix.kp ka)) danil))) danil)) _ .refl _ fun vq H6 k6 iq => ?_
    refine ⟨y, dx, vq, fu, _, [((a, b), x)], rfl, k6.get upd_same, iq, by simp, (by show 2 < 900; decide), rfl, fun H7 pa la k7 h7 i7 j7 => ?_⟩
    exact k H7 (ka.trans (k6.up.trans k7)) ⟨dx, pa, la, h7, i7, j7⟩


theorem Kp.drop {H H1 H2 : Hp} {p : Addr} (a : Kp [] H H1) (h : H p = none) (b : Kp [p] H1 H2) : Kp [] H H2 :=
  ⟨fun c o e _ => b.keep c o (a.get e) (fun q => by
      have q1 := List.mem_singleton.mp q
      rw [q1, h] at e
      cases e),
   fun c x e => b.tup c x (a.tup c x e), fun c o u e => b.frz c o u (a.frz c o u e)⟩
theorem Kp.ofExt {H H' : Hp} (h : Ext H H') : Kp [] H H' := ⟨fun b o e _ => h b o e, fun b x e => h b _ e, fun b o u e => h b _ e⟩
/-- what fresh and the making of a yard give -/
def RetY (K : PySem.W.Frag) (H : Hp) (Q : VK) (fu : Bool) (gs : List Pg) : Prop := ∀ y' H', Kp [] H H' → H y' = none → Yd K H' y' fu false gs → Q (.ref y') H'
def sp_fresh (K : PySem.W.Frag) (fu : Bool) : Sp := fun vs H Q _ => ∃ (y : Addr) (b f : Bool) (n : Nat) (gs : List Pg), vs = [.ref y] ∧ Yd K H y fu b gs ∧ Gd fu n f gs ∧ RetY K H Q fu [lastP gs]
/-- a new yard -/
theorem dNew {σ : L2.St} {H : Hp} {fu : Bool} {sp : Sp} {E : XK} {ta : TA} {Q : VK} {a b x : List Int} (ha : DA K ta σ H [pairD (a, b), tI x]) (hs : ∀ (y dx : Addr) (v1 v2 : V) (H1 : Hp) (Q1 : VK), H1 y = some (.ins (kC K fu) dx []) → Im K H1 v1 (pairD (a, b)) → Im K H1 v2 (tI x) → (∀ H', Kp [y] H1 H' → Yd K H' y fu false [((a, b), x)] → Q1 .non H') → sp [.ref y, v1, v2] H1 Q1 E)
    (k : RetY K H Q fu [((a, b), x)]) : tMake (kC K fu) sp [] E ta σ H Q := ha H .refl _ fun vs H1 k1 hv y dx hy hdx hne => by
  obtain ⟨v1, v2, rfl, i1, i2⟩ := hv.inv2
  have ka : Kp [] H1 (upd (upd H1 dx (.own y)) y (.ins (kC K fu) dx [])) := (Kp.new hdx).wn hy
  refine hs y dx v1 v2 _ _ upd_same (i1.kp ka) (i2.kp ka) fun H' k' hy' => ⟨rfl, ?_⟩
  have hy0 : H y = none := k1.free hy
  exact k y H' (Kp.drop (k1.trans ka) hy0 k') hy0 hy'

abbrev nl_Y_fresh : List Str := ["self"]
theorem sc_Y_fresh : FnScope nl_Y_fresh ["self"] (defScope s_Y_fresh) := ⟨rfl, rfl, rfl, by decide +kernel, rfl, by decide +kernel, by decide +kernel⟩

theorem ok_Y_fresh (T : Txt K mg) (B : Tab K w mg) (Y : Yrd K mg) : FnOk P w K mg base CX0 7 (He.ma K (He.ga K "Yard") "fresh") (fdA K (He.ma K (He.ga K "Yard") "fresh")) ["self"] (sp_fresh K false) := by
  refine T.f_Y_fresh.ok sc_Y_fresh (fun vs H Q E h => ?_) (fun cdv A outer s H vs Q E hr h => ?_)
  · obtain ⟨y, b, f, n, gs, rfl, hy, hg, k⟩ := h
    rfl
  · have nd := sc_Y_fresh.nd
    have hu := hr.units
    obtain ⟨y, b, f, n, gs, rfl, hy, hg, k⟩ := h
    refine ⟨_, PSs.nox (pss_one (ps_ret (pe_make (C := kC K false) (Y.kl false).mi (ok_Y_init T B Y) (hr.mono (by decide)) (by rfl) Y.gY T.b_Y_init .nil pass0 (pa_cons (pe_prop (pv 0) (Y.kl false).cl (Y.kl false).p_pair.choose_spec (ok_Y_pair T B Y) (hr.mono (by decide)) T.b_Y_pair .nil pass0 (by rfl)) (pa_cons (pe_prop (pv 0) (Y.kl false).cl (Y.kl false).p_box.choose_spec (ok_Y_box T B Y) (hr.mono (by decide)) T.b_Y_box .nil pass0 (by rfl)) pa_nil))))), ?_⟩
    exact dNew (fu := false) (dacons (dPair Y rfl hy hg.ne) (dacons (dBox Y rfl hy hg.ne) danil)) (fun y dx v1 v2 H1 Q1 h1 i1 i2 q => ⟨y, dx, v1, v2, false, _, _, _, rfl, h1, i1, i2, hg.bl, q⟩) k

end
end TB
namespace TB
open PySem PySem.Spec PyProof.Rows L2
section
variable {P : Program} {w : World} {K : PySem.W.Frag} {mg : Str → Option Value} {base : Heap}
abbrev nl_Y_state_at : List Str := ["self", "version"]
theorem sc_Y_state_at : FnScope nl_Y_state_at ["self", "version"] (defScope s_Y_state_at) := ⟨rfl, rfl, rfl, by decide +kernel, rfl, by decide +kernel, by decide +kernel⟩
def sp_state_at (K : PySem.W.Frag) : Sp := fun vs H Q _ => ∃ (y : Addr) (vv : V) (fu b : Bool) (gs : List Pg), vs = [.ref y, vv] ∧ Yd K H y fu b gs ∧ gs ≠ [] ∧ ((vv = .non ∧ Ret K H Q (pageD (lastP gs))) ∨ ∃ (i : Nat) (g : Pg), vv = .int (i : Int) ∧ gs[i]? = some g ∧ Ret K H Q (pageD g))
theorem ok_Y_state_at (T : Txt K mg) (B : Tab K w mg) (Y : Yrd K mg) : FnOk P w K mg base CX0 3 (He.ma K (He.ga K "Yard") "state_at") (fdA K (He.ma K (He.ga K "Yard") "state_at")) ["self", "version"] (sp_state_at K) := by
  refine T.f_Y_state_at.ok sc_Y_state_at (fun vs H Q E h => ?_) (fun cdv A outer s H vs Q E hr h => ?_)
  · obtain ⟨y, vv, fu, b, gs, rfl, hy, hn, h⟩ := h
    rfl
  · have nd := sc_Y_state_at.nd
    have hu := hr.units
    obtain ⟨y, vv, fu, b, gs, rfl, hy, hn, h⟩ := h
    refine ⟨_, PSs.nox (pss_cons (ps_if (pt_cmpR op_isN (pv 1) pe_non (nomark _)) (pss_one (ps_ret (pe_ix (ixT (K := K) rfl) (peFld (K := K) rfl (pv 0)) (pe_un un_neg pe_int) (fun _ _ => rfl)))) pss_nil)
      (pss_cons (ps_if (pt_not (pt_val (pe_call (ok_is_integer T) (hr.mono (by decide)) (by rfl) T.g_is_integer (T.f_is_integer.kp) (T.b_is_integer) .nil pass0 (pa_cons (pv 1) (pa_cons pe_int (pa_cons (pe_prop (pv 0) (Y.kl fu).cl (Y.kl fu).p_version.choose_spec (ok_Y_version (K := K) T B Y) (hr.mono (by decide)) T.b_Y_version .nil pass0 (by rfl)) pa_nil)))))) (pss_one ps_never) pss_nil)
      (pss_one (ps_ret (pe_ix (ixT (K := K) rfl) (peFld (K := K) rfl (pv 0)) (pv 1) (fun _ _ => rfl)))))), ?_⟩
    rcases h with ⟨rfl, k⟩ | ⟨i, g, rfl, hi, k⟩
    · refine qif (b := true) (DT.is (dtv (K := K) (disN (dv rfl .non))) rfl) (fun _ H1 k1 => ?_) (fun e => nomatch e)
      exact sret (K := K) (d := pageD (lastP gs)) (dix (dPages Y rfl (hy.up k1)) (dneg dint) (last_at hn)) fun v H2 k2 hv => k v H2 (k1.trans k2) hv
    · have hl : i < gs.length := (List.getElem?_eq_some_iff.mp hi).1
      refine qif (b := false) (DT.is (dtv (K := K) (disN (dv rfl (.int _)))) rfl) (fun e => nomatch e) (fun _ H1 k1 => ?_)
      refine qif (b := false) (DT.is (dtnot (dtv (K := K) (dIsInt (dv rfl (.int _)) dint (dVers Y rfl (hy.up k1))))) (by simp; omega)) (fun e => nomatch e) (fun _ H2 k2 => ?_)
      exact sret (K := K) (d := pageD g) (dix (dPages Y rfl ((hy.up k1).up k2)) (dv rfl (.int _)) (atMap pageD hi)) fun v H3 k3 hv => k v H3 (k1.trans (k2.trans k3)) hv


theorem plainAll_ints : ∀ l : List Int, PyData.plainAll (l.map PyData.int) = true
  | [] => rfl
  | x :: r => by simp [PyData.plainAll, PyData.plain, plainAll_ints r]
theorem plain_tI (l : List Int) : (tI l).plain = true := by simp [tI, PyData.plain, plainAll_ints]
theorem plain_pair (p : Pair) : (pairD p).plain = true := by simp [pairD, PyData.plain, PyData.plainAll, plain_tI]
theorem plain_page (g : Pg) : (pageD g).plain = true := by simp [pageD, PyData.plain, PyData.plainAll, plain_tI, plain_pair]
theorem can_tI (l : List Int) : (tI l).canLay0 = true := by simp [tI, PyData.canLay0, canAll_ints]
theorem can_pair (p : Pair) : (pairD p).canLay0 = true := by simp [pairD, PyData.canLay0, PyData.canLayAll0, can_tI]
theorem can_page (g : Pg) : (pageD g).canLay0 = true := by simp [pageD, PyData.canLay0, PyData.canLayAll0, can_tI, can_pair]
theorem dep_tI (l : List Int) : (tI l).depth ≤ 1 := by simp [tI, PyData.depth, depth_ints]
theorem dep_pair (p : Pair) : (pairD p).depth ≤ 2 := by
  have h1 := dep_tI p.1
  have h2 := dep_tI p.2
  simp only [pairD, PyData.depth, PyData.depthAll]; omega
theorem dep_page (g : Pg) : (pageD g).depth ≤ 3 := by
  have h1 := dep_pair g.1
  have h2 := dep_tI g.2
  simp only [pageD, PyData.depth, PyData.depthAll]; omega
theorem sh_look (fu : Bool) (gs : List Pg) : SeqAt.shaped (lookD fu gs) = true := shaped_tup fun d hd => by
  have hm : d = .str (kS fu) ∨ d = pageD (lastP gs) := by simpa using hd
  rcases hm with rfl | rfl
  · exact ⟨by cases fu <;> decide +kernel, by simp [PyData.depth]⟩
  · exact ⟨can_page _, Nat.le_trans (dep_page _) (by decide)⟩
theorem eqv_look (fu : Bool) (gs : List Pg) : PyData.eqv (lookD fu gs) (lookD fu gs) = true := SeqAt.eqv_refl_plain _ (by simp [lookD, PyData.plain, PyData.plainAll, plain_page])
/-- two yards that look alike -/
def Alike (K : PySem.W.Frag) (p q : Addr) (H : Hp) : Prop := ∃ (fu b1 b2 : Bool) (gs hs : List Pg), Yd K H p fu b1 gs ∧ Yd K H q fu b2 hs ∧ lastP gs = lastP hs
theorem Kp.ext {H H' : Hp} (k : Kp [] H H') : Ext H H' := fun a o h => k.get h
theorem disC {σ : L2.St} {H : Hp} {i : Nat} {y : Addr} {fu b : Bool} {gs : List Pg} (Y : Yrd K mg) (hv : σ[i]? = some (some (.ref y))) (h : Yd K H y fu b gs) : DE K (tCB (rIsi K) (tCons (tVar i) (tCons (tC (.ref (He.ga K "Yard"))) tNil))) σ H (.bool true) := fun H1 k Q q => by
  obtain ⟨dx, pa, la, h1, h2, h3⟩ := h
  exact ⟨_, hv, _, _, .ref (kC K fu), _, true, rfl, .own _, .base (.ins (k.get h1) (Y.kl fu).cl (Y.kl fu).tc Y.n1 Y.n2 (Y.kl fu).mo), Y.ki fu, q _ H1 .refl (.bl _)⟩

abbrev nl_Y_eq : List Str := ["self", "other"]
theorem sc_Y_eq : FnScope nl_Y_eq ["self", "other"] (defScope s_Y_eq) := ⟨rfl, rfl, rfl, by decide +kernel, rfl, by decide +kernel, by decide +kernel⟩

theorem ok_Y_eq (T : Txt K mg) (B : Tab K w mg) (Y : Yrd K mg) : FnOk P w K mg base CX0 2 (He.ma K (He.ga K "Yard") "__eq__") (fdA K (He.ma K (He.ga K "Yard") "__eq__")) ["self", "other"] (spEq (Alike K)) := by
  refine T.f_Y_eq.ok sc_Y_eq (fun vs H Q E h => ?_) (fun cdv A outer s H vs Q E hr h => ?_)
  · obtain ⟨p, q, rfl, ⟨fu, b1, b2, gs, hs, h1, h2, h3⟩, k⟩ := h
    rfl
  · have nd := sc_Y_eq.nd
    have hu := hr.units
    obtain ⟨p, q, rfl, ⟨fu, b1, b2, gs, hs, h1, h2, h3⟩, k⟩ := h
    refine ⟨_, PSs.nox (pss_one (ps_ret (pe_and (pe_callB (clIsi (K := K) rfl) (by rfl) T.n_isinstance (by decide +kernel) (pa_cons (pv 1) (pa_cons (pe_glob (v := .ref (He.ga K "Yard")) rfl Y.gY rfl) pa_nil))) (pe_one (pe_cmpR (opEqD (K := K) rfl hu) (peFld (K := K) rfl (pv 0)) (peFld (K := K) rfl (pv 1)) (nomark _)))))), ?_⟩
    have e : lookD fu gs = lookD fu hs := by unfold lookD; rw [h3]
    refine sretV (K := K) (d := .bool true) (DE.is (dand (disC Y rfl h2) (fun _ => dE (dLook Y rfl h1) (dLook Y rfl h2) (sh_look _ _) (sh_look _ _))) (by rw [e, eqv_look]; rfl)) rfl fun H1 k1 => k H1 k1.ext

end
end TB
namespace TB
open PySem PySem.Spec PyProof.Rows L2
section
variable {P : Program} {w : World} {K : PySem.W.Frag} {mg : Str → Option Value} {base : Heap}

/-- the pages behind the first i edits -/
def appN (gs : List Pg) (its : List (Option (List Int))) : List Pg := its.foldl app1 gs
theorem appN_len (its : List (Option (List Int))) : ∀ gs : List Pg, (appN gs its).length = gs.length + its.length := by
  induction its with
  | nil => intro gs; rfl
  | cons o r ih => intro gs; show (appN (app1 gs o) r).length = _; rw [ih]; simp [app1]; omega
theorem appN_take (gs : List Pg) (its : List (Option (List Int))) (i : Nat) (o : Option (List Int)) (h : its[i]? = some o) : appN gs (its.take (i + 1)) = app1 (appN gs (its.take i)) o := by
  unfold appN
  rw [List.take_add_one, h]
  simp [List.foldl_append]
theorem Gd.appN {fu f : Bool} {n : Nat} : ∀ {its : List (Option (List Int))} {gs : List Pg}, Gd fu n f gs → (∀ o ∈ its, itOk n o) → gs.length + its.length ≤ 20 → Gd fu n f (TB.appN gs its)
  | [], gs, h, _, _ => h
  | o :: r, gs, h, hi, hl => by
    simp only [List.length_cons] at hl
    exact Gd.appN (gs := app1 gs o) (h.app (hi o (by simp)) (by omega)) (fun p hp => hi p (by simp [hp])) (by simp [app1]; omega)
theorem cut_tail {α : Type} (x : α) (l : List α) : cutD (x :: l) (some 1) none = l := by
  have e1 : HT.sIx (x :: l).length 0 (some 1) = 1 := by
    show (if (1 : Int) < 0 then ((1 : Int) + ((x :: l).length : Int)).toNat else min (1 : Int).toNat (x :: l).length) = _
    rw [if_neg (by decide)]
    simp
  have e2 : HT.sIx (x :: l).length (x :: l).length none = (x :: l).length := rfl
  unfold cutD
  rw [e1, e2]
  simp
/-- what a walk of edits promises: on_step's place holds None, or a function that is asked behind each edit -/
def sp_do_all (K : PySem.W.Frag) (lf : Addr) (F : FuncData) (sps : Sp) : Sp := fun vs H Q E => ∃ (y : Addr) (vb os : V) (fu f : Bool) (n : Nat) (gs : List Pg) (its : List (Option (List Int))) (l : List Addr) (J : Nat → Hp → Prop),
  vs = [.ref y, vb, os] ∧ Im K H vb (.tuple (its.map itD)) ∧ Gd fu n f gs ∧ (∀ o ∈ its, itOk n o) ∧ gs.length + its.length ≤ 20 ∧ (os = .non ∨ (os = .ref lf ∧ ∀ i H', J i H' → H' lf = some (FnQ lf F))) ∧ J 0 H ∧
  (∀ i H', J i H' → Kp l H H' ∧ Yd K H' y fu true (appN gs (its.take i))) ∧ (∀ i H' H2, J i H' → Kp [] H' H2 → J i H2) ∧
  (∀ i H1, i < its.length → J i H1 → ∀ H2, Kp [y] H1 H2 → Yd K H2 y fu true (appN gs (its.take (i + 1))) → (os = .non → J (i + 1) H2) ∧ (os = .ref lf → H2 lf = some (FnQ lf F) ∧ ∀ Q1 : VK, (∀ v H3, J (i + 1) H3 → Q1 v H3) → sps [.ref y] H2 Q1 E)) ∧
  (∀ H', J its.length H' → Q .non H')
theorem yl_all (b : Bool) (pa la : Addr) : (yF b pa la).lookup ("do_all" : Str) = none := rfl

abbrev nl_Y_do_all : List Str := ["self", "batch", "on_step", "index", "item"]
theorem sc_Y_do_all : FnScope nl_Y_do_all ["self", "batch", "on_step"] (defScope s_Y_do_all) := ⟨rfl, rfl, rfl, by decide +kernel, rfl, by decide +kernel, by decide +kernel⟩

theorem ok_Y_do_all (T : Txt K mg) (B : Tab K w mg) (Y : Yrd K mg) (kc : Nat) (lf : Addr) (F : FuncData) (sps : Sp) (Fs : FnR P w K mg base (L2.CX P w) kc lf sps) : FnOk P w K mg base (L2.CX P w) (kc + 7) (He.ma K (He.ga K "Yard") "do_all") (fdA K (He.ma K (He.ga K "Yard") "do_all")) ["self", "batch", "on_step"] (sp_do_all K lf F sps) := by
  refine T.f_Y_do_all.ok sc_Y_do_all (fun vs H Q E h => ?_) (fun cdv A outer s H vs Q E hr h => ?_)
  · obtain ⟨y, vb, os, fu, f, n, gs, its, l, J, rfl, ib, hg, hi, hl, hos, j0, jk, jm, js, k⟩ := h
    rfl
  · have nd := sc_Y_do_all.nd
    have hu := hr.units
    obtain ⟨y, vb, os, fu, f, n, gs, its, l, J, rfl, ib, hg, hi, hl, hos, j0, jk, jm, js, k⟩ := h
    refine ⟨_, (pss_one (ps_for (passes_of rfl) rfl (piE (K := K) rfl (by rfl) T.n_enumerate (pa_cons (pv 1) pa_nil)) (pgT (K := K) (n := 2) rfl rfl (pgs_cons (pg_name (i := 3) nd rfl (Or.inl rfl)) (pgs_cons (pg_name (i := 4) nd rfl (Or.inl rfl)) pgs_nil))) (pss_cons (ps_if (pt_not (pt_val (pe_call (ok_is_edit T B) (hr.mono (by omega)) (by rfl) T.g_is_edit (T.f_is_edit.kp) (T.b_is_edit) .nil pass0 (pa_cons (pv 4) pa_nil)))) (pss_one ps_never) pss_nil)
      (pss_cons (ps_try_thru0 (pss_one (ps_expr (pe_meth (pv 0) (Y.kl fu).cl (Y.kl fu).m_do (ok_Y_do (K := K) T B Y) (hr.mono (by omega)) T.b_Y_do .nil pass0 (pa_cons (pe_ix (ixT (K := K) rfl) (pv 4) pe_int (fun _ _ => rfl)) (pa_cons (pe_slice (slA (K := K) rfl) (pv 4) (po_some pe_int) po_none) pa_nil))))))
      (pss_one (ps_if (pt_cmpR op_notN (pv 2) pe_non (nomark _)) (pss_one (ps_expr (peCallQ (F := F) (i := 2) Fs (hr.mono (by omega)) (passes_call (takes_of rfl rfl rfl rfl) (fun _ _ _ _ h => h)) rfl (Or.inl rfl) (pa_cons (pv 0) pa_nil)))) pss_nil)))))), ?_⟩
    refine qforE (D := { nx := fun _ H' => Q .non H', rt := Q }) (ds := its.map itD) (tz := tNext) rfl ib (fun i σ' H' => (∃ a b, σ' = [some (.ref y), some vb, some os, a, b]) ∧ J i H') ⟨⟨none, none, rfl⟩, j0⟩ (fun i σ' H' H2 ⟨e, j⟩ k2 => ⟨e, jm i H' H2 j k2⟩) (fun i σ' H' ⟨_, j⟩ => ⟨l, (jk i H' j).1⟩) (fun i x d σ' H' hi' hd hx ⟨⟨a, b, e⟩, j⟩ => ?_) (fun σ' H' ⟨_, j⟩ => by
      rw [List.length_map] at j
      exact k H' j)
    subst e
    rw [List.length_map] at hi'
    obtain ⟨o, ho, rfl⟩ := getMap hd
    have hmo := hi o (List.mem_of_getElem? ho)
    have hy := (jk i H' j).2
    refine qif (b := false) (DT.is (dtnot (dtB (K := K) (dcall (ds := [itD o]) (d := .bool true) (dacons (dv rfl hx) danil) fun vs H1 k1 hv Q1 q1 => ?_))) rfl) (fun e => nomatch e) (fun _ H1 k1 => ?_)
    · obtain ⟨v1, rfl, i1⟩ := hv.inv1
      exact ⟨v1, o, rfl, i1, fun H2 k2 => q1 _ H2 k2 (.bl _)⟩
    have hx1 := hx.kp k1
    rw [itD_eq] at hx1
    have hgi : Gd fu n f (appN gs (its.take i)) := hg.appN (fun p hp => hi p (List.mem_of_mem_take hp)) (by simp; omega)
    have hli : (appN gs (its.take i)).length < 20 := by rw [appN_len]; simp; omega
    refine dMethX rfl (hy.up k1) (m := "do") (dacons (dix (dv rfl hx1) dint (atI_nat (j := 0) rfl)) (dacons (dslT (dv rfl hx1) (dosome (K := K) dint) donone) danil)) (yl_do true) fun vs H2 k2 hv => ?_
    obtain ⟨v1, v2, rfl, i1, i2⟩ := hv.inv2
    obtain rfl := i1.strI
    rw [cut_tail] at i2
    refine ⟨y, v2, fu, true, f, n, _, o, rfl, i2, (hy.up k1).up k2, hgi, hmo, hli, fun H3 k3 hy3 => ?_⟩
    rw [← appN_take gs its i o ho] at hy3
    have js' := js i H' hi' j H3 (k1.up.trans (k2.up.trans k3)) hy3
    rcases hos with rfl | ⟨rfl, hfo⟩
    · refine sif (b := false) (DT.is (dtv (K := K) (dnotN (dv rfl .non))) rfl) (fun e => nomatch e) (fun _ H4 k4 => ⟨⟨_, _, rfl⟩, jm _ _ _ (js'.1 rfl) k4⟩)
    · refine ⟨_, rfl, rfl, true, rfl, ?_⟩
      obtain ⟨hf3, hs3⟩ := js'.2 rfl
      show if true = true then _ else _
      rw [if_pos rfl]
      exact ⟨rfl, hf3, _, rfl, hf3, hs3 _ fun v H4 j4 => ⟨⟨_, _, rfl⟩, j4⟩⟩

end
end TB
namespace TB
open PySem PySem.Spec PyProof.Rows L2
section
variable {P : Program} {w : World} {K : PySem.W.Frag} {mg : Str → Option Value} {base : Heap}

theorem kit_tl : PySem.W.kitAny K (.type "list") [.type "tuple", .type "list"] = some true :=
  kitAny_cons (kit_ty (show kitB "list" "tuple" = some false by decide +kernel)) (fun _ => kitAny_cons (kit_ty (show kitB "list" "list" = some true by decide +kernel)) (fun e => nomatch e) (fun _ => rfl)) (fun e => nomatch e)
/-- isinstance(a list, (tuple, list)) -/
theorem disTL {σ : L2.St} {H : Hp} {i : Nat} {p : Addr} {xs : List V} (hv : σ[i]? = some (some (.ref p))) (hp : H p = some (.lst xs)) : DE K (tCB (rIsiT K) (tCons (tVar i) (tCons (tTup (tCons (tC (.ty "tuple")) (tCons (tC (.ty "list")) tNil))) tNil))) σ H (.bool true) := fun H1 k Q q =>
  ⟨_, hv, Evl.sz_of (by simp), fun p1 n1 => ⟨_, p1, [.ty "tuple", .ty "list"], _, [.type "tuple", .type "list"], true, rfl, upd_same, .cons (.ty _) (.cons (.ty _) .nil), .base (.lst ((Kp.new (l := []) n1).get (k.get hp))), kit_tl, q _ _ (.new n1) (.bl _)⟩⟩
/-- tuple(x), x a list that a name holds -/
theorem dtupV {σ : L2.St} {H : Hp} {i : Nat} {p : Addr} {xs : List V} {ds : List PyData} (hv : σ[i]? = some (some (.ref p))) (hp : H p = some (.lst xs)) (hx : ImAll K H xs ds) : DE K (tCB (fun xs H Q => ∃ p ys, xs = [.ref p] ∧ ((SqL K H p ys ∧ ∀ l, H l = none → Q (.ref l) (upd H l (.tup ys))) ∨ (SqT K H p ys ∧ Q (.ref p) H))) (tCons (tVar i) tNil)) σ H (.tuple ds) := fun H1 k Q q =>
  ⟨_, hv, p, xs, rfl, .inl ⟨.of (k.get hp), fun l nl => q _ _ (.new nl) (.tup (.of upd_same) ((hx.kp k).kp (l := []) (.new nl)))⟩⟩
theorem put_busy (b c : Bool) (pa la : Addr) : putF "is_busy" (.bl c) (yF b pa la) = yF c pa la := rfl
theorem put_pages (b : Bool) (pa la q : Addr) : putF "pages" (.ref q) (yF b pa la) = yF b q la := rfl
theorem put_look (b : Bool) (pa la q : Addr) : putF "look" (.ref q) (yF b pa la) = yF b pa q := rfl
/-- what an attempt promises. l: what may change; J: how it stands behind i steps; JE: how it stands at an error -/
def sp_attempt (K : PySem.W.Frag) (lf : Addr) (F : FuncData) (sps : Sp) : Sp := fun vs H Q E => ∃ (y : Addr) (vb os : V) (fu b : Bool) (gs : List Pg), vs = [.ref y, vb, os] ∧ Yd K H y fu b gs ∧ (b = true → ∀ H', Kp [] H H' → E (.ref (He.ga K "Busy")) none H') ∧
  (b = false → ∃ (p : Addr) (xs : List V) (f : Bool) (n : Nat) (its : List (Option (List Int))) (l : List Addr) (J : Nat → Hp → Prop) (JE : Value → Option Addr → Hp → Prop),
    vb = .ref p ∧ H p = some (.lst xs) ∧ ImAll K H xs (its.map itD) ∧ Gd fu n f gs ∧ (∀ o ∈ its, itOk n o) ∧ its.length ≤ 10 ∧ gs.length + its.length ≤ 20 ∧ y ∈ l ∧ (os = .non ∨ (os = .ref lf ∧ ∀ i H', J i H' → H' lf = some (FnQ lf F))) ∧
    (∀ H0, Kp [y] H H0 → Yd K H0 y fu true gs → J 0 H0) ∧ (∀ i H', J i H' → Kp l H H' ∧ Yd K H' y fu true (appN gs (its.take i))) ∧ (∀ i H' H2, J i H' → Kp [] H' H2 → J i H2) ∧
    (∀ i H1, i < its.length → J i H1 → ∀ H2, Kp [y] H1 H2 → Yd K H2 y fu true (appN gs (its.take (i + 1))) → (os = .non → J (i + 1) H2) ∧ (os = .ref lf → H2 lf = some (FnQ lf F) ∧ ∀ (Q1 : VK) (E1 : XK), (∀ v H3, J (i + 1) H3 → Kp l H2 H3 → Q1 v H3) → (∀ cls d H3, JE cls d H3 → Kp l H2 H3 → E1 cls d H3) → sps [.ref y] H2 Q1 E1)) ∧
    (∀ cls d H3, JE cls d H3 → Kp l H H3 ∧ (∃ gs3, Yd K H3 y fu true gs3) ∧ ∀ H', Kp [y] H3 H' → Yd K H' y fu false gs → E cls d H') ∧
    (∀ H1, J its.length H1 → ∀ H', Kp [y] H1 H' → Yd K H' y fu false (appN gs its) → Q (.int ((gs.length : Int) + its.length - 1)) H'))
theorem Kp.mem {H H' : Hp} {l : List Addr} {y : Addr} (k : Kp [y] H H') (h : y ∈ l) : Kp l H H' := k.mono fun b hb => by
  rcases List.mem_singleton.mp hb with rfl
  exact h

abbrev nl_Y_attempt : List Str := ["self", "batch", "on_step", "pages", "look", "was_filled", "whole"]
theorem sc_Y_attempt : FnScope nl_Y_attempt ["self", "batch", "on_step"] (defScope s_Y_attempt) := ⟨rfl, rfl, rfl, by decide +kernel, rfl, by decide +kernel, by decide +kernel⟩

theorem ok_Y_attempt (T : Txt K mg) (B : Tab K w mg) (Y : Yrd K mg) (kc : Nat) (lf : Addr) (F : FuncData) {sps : Sp} (Fs : FnR P w K mg base (L2.CX P w) kc lf sps) : FnOk P w K mg base (L2.CX P w) (kc + 12) (He.ma K (He.ga K "Yard") "attempt") (fdA K (He.ma K (He.ga K "Yard") "attempt")) ["self", "batch", "on_step"] (sp_attempt K lf F sps) := by
  refine T.f_Y_attempt.ok sc_Y_attempt (fun vs H Q E h => ?_) (fun cdv A outer s H vs Q E hr h => ?_)
  · obtain ⟨y, vb, os, fu, b, gs, rfl, hy, hbz, hfr⟩ := h
    rfl
  · have nd := sc_Y_attempt.nd
    have hu := hr.units
    obtain ⟨y, vb, os, fu, b, gs, rfl, hy, hbz, hfr⟩ := h
    refine ⟨_, (pss_cons (ps_expr (pe_meth0 (pv 0) (Y.kl fu).cl (Y.kl fu).m_require_free (ok_Y_require_free (K := K) T B Y) (hr.mono (by omega)) T.b_Y_require_free .nil (passes_call (takes_of rfl rfl rfl rfl) (fun _ _ _ _ h => h))))
      (pss_cons (ps_if (PW.pt (pw_or (pt_not (pt_val (pe_callB (clIsiT (K := K) rfl) (by rfl) T.n_isinstance (by decide +kernel) (pa_cons (pv 1) (pa_cons (pe_tup (pa_cons (pe_bltn (v := .ty "tuple") (by rfl) T.n_tuple (by decide +kernel) rfl) (pa_cons (pe_bltn (v := .ty "list") (by rfl) T.n_list (by decide +kernel) rfl) pa_nil))) pa_nil))))) (pw_or1 (pt_cmpR op_gt (pe_callB (clLen (K := K) rfl) (by rfl) T.n_len (by decide +kernel) (pa_cons (pv 1) pa_nil)) (pe_glob (v := .int 20) rfl T.c_BATCH.choose_spec ⟨_, rfl⟩) (nomark _))))) (pss_one ps_never) pss_nil)
      (pss_cons (ps_asg (pe_tup (pa_cons (peFld (K := K) rfl (pv 0)) (pa_cons (peFld (K := K) rfl (pv 0)) (pa_cons (pe_callTy (clBoolO (ok_Y_bool (K := K) T B Y) (hr.mono (by omega)) T.b_Y_bool pass0 (Y.kl fu).o_bool) (by rfl) T.n_bool (by decide +kernel) (pa_cons (pv 0) pa_nil)) (pa_cons pe_non pa_nil))))) (pgT (K := K) (n := 4) rfl rfl (pgs_cons (pg_name (i := 3) nd rfl (Or.inl rfl)) (pgs_cons (pg_name (i := 4) nd rfl (Or.inl rfl)) (pgs_cons (pg_name (i := 5) nd rfl (Or.inl rfl)) (pgs_cons (pg_name (i := 6) nd rfl (Or.inl rfl)) pgs_nil))))))
      (pss_cons (psFld (K := K) rfl (pv 0) pe_bl)
      (pss_cons (psFinal rfl rfl rfl (takes_of rfl rfl rfl rfl) (fun W pz xe tk _ => (pss_cons (ps_expr (peMethAt (pv 0) (Y.kl fu).cl (Y.kl fu).m_do_all (raw0 (ok_Y_do_all (K := K) (sps := sps) T B Y kc lf F Fs) T.b_Y_do_all) (hr.mono (by omega)) (fun σ => passAt tk σ) (pa_cons (pe_callTy (clTuple (K := K) rfl) (by rfl) T.n_tuple (by decide +kernel) (pa_cons (pv 1) pa_nil)) (pa_cons (pv 2) pa_nil))))
      (pss_one (ps_set (i := 6) nd rfl (Or.inl rfl) (pe_prop (pv 0) (Y.kl fu).cl (Y.kl fu).p_version.choose_spec (ok_Y_version (K := K) T B Y) (hr.mono (by omega)) T.b_Y_version .nil pass0 (by rfl)))))) (pss_cons (psFld (K := K) rfl (pv 0) pe_bl) (pss_one (ps_if (pt_cmpR op_isN (pv 6) pe_non (nomark _)) (pss_cons (psFld (K := K) rfl (pv 0) (pv 3)) (pss_one (psFld (K := K) rfl (pv 0) (pv 4)))) pss_nil))) (fun a pz => (pss_cons (psFld (K := K) rfl (pv 0) pe_bl) (pss_one (ps_if (pt_cmpR op_isN (pv 6) pe_non (nomark _)) (pss_cons (psFld (K := K) rfl (pv 0) (pv 3)) (pss_one (psFld (K := K) rfl (pv 0) (pv 4)))) pss_nil)))))
      (pss_cons (ps_expr (pe_meth (pv 0) (Y.kl fu).cl (Y.kl fu).m_tell (ok_Y_tell (K := K) T B Y) (hr.mono (by omega)) T.b_Y_tell .nil pass0 (pa_cons (pv 5) pa_nil)))
      (pss_one (ps_ret (pe_prop (pv 0) (Y.kl fu).cl (Y.kl fu).p_version.choose_spec (ok_Y_version (K := K) T B Y) (hr.mono (by omega)) T.b_Y_version .nil pass0 (by rfl)))))))))), ?_⟩
    cases b with
    | true =>
      exact dMethX rfl hy (m := "require_free") danil (yl_free true) fun vs H1 k1 hv => by
        cases hv
        exact ⟨y, fu, true, gs, rfl, hy.up k1, (fun _ H2 k2 => hbz rfl H2 (k1.trans k2)), (fun e => nomatch e)⟩
    | false =>
      obtain ⟨p, xs, f, n, its, l, J, JE, rfl, hp, hx, hg, hi, hl10, hl, hyl, hos, j0, jk, jm, js, je, jq⟩ := hfr rfl
      have hlx := hx.len
      rw [List.length_map] at hlx
      refine qdrop (d := .none) (dMeth rfl hy (m := "require_free") danil (yl_free false) fun vs H1 k1 hv Q1 q1 => ?_) fun _ H1 k1 _ => ?_
      · cases hv
        exact ⟨y, fu, false, gs, rfl, hy.up k1, (fun e => nomatch e), (fun _ H2 k2 => q1 _ H2 k2 .non)⟩
      refine qif (b := false) (DT.is (dtor (dtnot (dtB (K := K) (disTL rfl (k1.get hp)))) (fun _ => dtv (K := K) (dB0 (dlenV rfl (.of (k1.get hp)) (hx.kp k1)) dint))) (by simp; omega)) (fun e => nomatch e) (fun _ H2 k2 => ?_)
      have hy2 := (hy.up k1).up k2
      refine qasgG (K := K) (dtup (dacons (dPages Y rfl hy2) (dacons (dLook Y rfl hy2) (dacons (dBoolY rfl hy2 hg) (dacons dnon danil))))) fun v H3 k3 hv => ?_
      obtain ⟨q, ws, rfl, hq, hw⟩ := hv.tupI
      obtain ⟨v1, v2, v3, v4, rfl, i1, i2, i3, i4⟩ := hw.inv4
      obtain rfl := i3.blI
      obtain rfl := i4.nonI
      obtain ⟨pa0, _, rfl, _, _⟩ := i1.tupI
      obtain ⟨la0, _, rfl, _, _⟩ := i2.tupI
      refine ⟨q, _, rfl, hq, rfl, _, _, rfl, _, _, rfl, _, _, rfl, _, _, rfl, rfl, ?_⟩
      have k03 := k1.trans (k2.trans k3)
      obtain ⟨dx, pa, la, h1, h2, h3⟩ := hy.up k03
      refine qsf Y rfl h1 (Y.kl fu).aB (by show 4 < 1000; decide) dbl fun v H4 k4 hv => ?_
      obtain rfl := hv.blI
      have kk : Kp [y] H4 (upd H4 y (.ins (kC K fu) dx (putF "is_busy" (.bl true) (yF false pa la)))) := Kp.wi (k4.get h1) (by simp)
      rw [put_busy] at kk ⊢
      have k05 : Kp [y] H (upd H4 y (.ins (kC K fu) dx (yF true pa la))) := k03.up.trans (k4.up.trans kk)
      have hy5 : Yd K (upd H4 y (.ins (kC K fu) dx (yF true pa la))) y fu true gs := ⟨dx, pa, la, upd_same, (h2.kp k4).kp kk, (h3.kp k4).kp kk⟩
      have kx : Kp l H (upd H4 y (.ins (kC K fu) dx (yF true pa la))) := k05.mem hyl
      have hp5 : (upd H4 y (.ins (kC K fu) dx (yF true pa la))) p = some (.lst xs) := k05.keep p _ hp (fun e => by
        have e1 := List.mem_singleton.mp e
        have h0 := k03.get hp
        rw [e1, h1] at h0
        cases h0)
      have hx5 := hx.kp k05
      have i15 := ((i1.kp k4).kp kk)
      have i25 := ((i2.kp k4).kp kk)
      generalize upd H4 y (.ins (kC K fu) dx (yF true pa la)) = H5 at *
      obtain ⟨dy, pb, lb, b1, b2, b3⟩ := hy5
      refine ⟨_, rfl, y, dy, _, rfl, b1, yl_all _ _ _, ?_⟩
      refine (dtupV (K := K) rfl hp5 hx5) H5 .refl _ fun vt H6 k6 it => ?_
      refine ⟨_, rfl, ?_⟩
      have k06 : Kp [y] H H6 := k05.trans k6.up
      have hyd6 : Yd K H6 y fu true gs := Yd.up ⟨dy, pb, lb, b1, b2, b3⟩ k6
      refine ⟨y, vt, os, fu, f, n, gs, its, l, (fun i H' => J i H' ∧ Kp l H6 H'), rfl, it, hg, hi, hl, ?_, ⟨j0 H6 k06 hyd6, .refl⟩, (fun i H' j => ⟨j.2, (jk i H' j.1).2⟩), (fun i H' H2 j k2 => ⟨jm i H' H2 j.1 k2, j.2.trans k2.up⟩), ?_, ?_⟩
      · rcases hos with h | ⟨h, h'⟩
        · exact .inl h
        · exact .inr ⟨h, fun i H' j => h' i H' j.1⟩
      · intro i H7 hi' j H8 k8 hy8
        obtain ⟨s1, s2⟩ := js i H7 hi' j.1 H8 k8 hy8
        have k68 : Kp l H6 H8 := j.2.trans (k8.mem hyl)
        refine ⟨fun e => ⟨s1 e, k68⟩, fun e => ⟨(s2 e).1, fun Q1 q1 => ?_⟩⟩
        refine (s2 e).2 Q1 _ (fun v H9 j9 k9 => q1 v H9 ⟨j9, k68.trans k9⟩) (fun cls d H9 j9 k9 => ?_)
        -- the error: the suite puts back what was
        obtain ⟨_, ⟨gs3, dz, pc, lc, c1, c2, c3⟩, je3⟩ := je cls d H9 j9
        have k59 : Kp l H5 H9 := k6.up.trans (k68.trans k9)
        refine qsf Y rfl c1 (Y.kl fu).aB (by show 4 < 1000; decide) dbl fun v Ha ka hv => ?_
        obtain rfl := hv.blI
        have ca := ka.get c1
        refine sif (b := true) (DT.is (dtv (K := K) (disN (dv rfl .non))) rfl) (fun _ Hb kb => ?_) (fun e => nomatch e)
        have cb := kb.get (upd_same (H := Ha) (a := y) (o := .ins (kC K fu) dz (putF "is_busy" (.bl false) (yF true pc lc))))
        refine ⟨_, rfl, _, rfl, y, kC K fu, dz, _, rfl, cb, (Y.kl fu).cl, (Y.kl fu).aP, (by show 4 < 1000; decide), ?_⟩
        refine ⟨_, rfl, _, rfl, y, kC K fu, dz, _, rfl, upd_same, (Y.kl fu).cl, (Y.kl fu).aL, (by show 4 < 1000; decide), ?_⟩
        have kz : Kp [y] H9 (upd (upd Hb y (.ins (kC K fu) dz (putF "pages" (.ref pa0) (putF "is_busy" (.bl false) (yF true pc lc))))) y (.ins (kC K fu) dz (putF "look" (.ref la0) (putF "pages" (.ref pa0) (putF "is_busy" (.bl false) (yF true pc lc)))))) :=
          ka.up.trans ((Kp.wi ca (by simp)).trans (kb.up.trans ((Kp.wi cb (by simp)).trans (Kp.wi upd_same (by simp)))))
        refine je3 _ kz ⟨dz, pa0, la0, upd_same, (i15.kp k59).kp kz, (i25.kp k59).kp kz⟩
      · intro H7 j
        have hy7 := (jk _ H7 j.1).2
        rw [List.take_length] at hy7
        have hgN := hg.appN hi hl
        refine sasg (K := K) (d := .int (((appN gs its).length : Int) - 1)) (dVers Y rfl hy7) fun v H8 k8 hv => ?_
        obtain rfl := hv.intI
        obtain ⟨dz, pc, lc, c1, c2, c3⟩ := hy7.up k8
        refine qsf Y rfl c1 (Y.kl fu).aB (by show 4 < 1000; decide) dbl fun v Ha ka hv => ?_
        obtain rfl := hv.blI
        have kb : Kp [y] Ha (upd Ha y (.ins (kC K fu) dz (putF "is_busy" (.bl false) (yF true pc lc)))) := Kp.wi (ka.get c1) (by simp)
        have hyb : Yd K (upd Ha y (.ins (kC K fu) dz (putF "is_busy" (.bl false) (yF true pc lc)))) y fu false (appN gs its) := ⟨dz, pc, lc, upd_same, (c2.kp ka).kp kb, (c3.kp ka).kp kb⟩
        generalize upd Ha y (.ins (kC K fu) dz (putF "is_busy" (.bl false) (yF true pc lc))) = Hb at *
        refine sif (b := false) (DT.is (dtv (K := K) (disN (dv rfl (.int _)))) rfl) (fun e => nomatch e) (fun _ Hc kc' => ?_)
        have hyc := hyb.up kc'
        refine dMethX rfl hyc (m := "tell") (dacons (dv rfl (.bl f)) danil) (yl_tell false) fun vs Hd kd hv => ?_
        obtain ⟨v1, rfl, j1⟩ := hv.inv1
        obtain rfl := j1.blI
        refine ⟨y, fu, false, f, n, _, rfl, hyc.up kd, hgN, fun He' ke hye => ?_⟩
        refine sretV (K := K) (d := .int ((gs.length : Int) + its.length - 1)) (DE.is (dVers Y rfl hye) (by rw [appN_len]; simp)) rfl fun Hf kf => ?_
        exact jq H7 j.1 Hf (k8.up.trans (ka.up.trans (kb.trans (kc'.up.trans (kd.up.trans (ke.trans kf.up)))))) (hye.up kf)

end
end TB
/-! the __init__ of the lower class, which asks that of the upper -/
namespace TB
open PySem PySem.Spec PyProof.Rows L2 PySem.W NdefX
section
variable {P : Program} {w : World} {K : PySem.W.Frag} {mg : Str → Option Value} {base : Heap}
/-- how the top leaves that def -/
structure FIni (P : Program) (K : PySem.W.Frag) (mg : Str → Option Value) : Prop where
  ex : ∃ (oc c1 c2 kV doc pm ct : Value) (od an o1 o2 : Option Addr) (osl s1 s2 : Array (Option Value)) (cda cc : Addr) (vs : Array Value) (file : Str) (tf : Tok),
    K.lookup (fiA K) = some ⟨oc, od, .func (ksFn "__init__" "FullYard.__init__" (defArgs s_F_init) (defBody s_F_init) (defScope s_F_init) .none kV doc pm an (.ref cda) ct cc), osl⟩ ∧ codeIn K (.ref cda) "FullYard.__init__" = true ∧
    K.lookup cc = some ⟨c1, o1, .cell (some (.ref (He.ga K "FullYard"))), s1⟩ ∧ K.lookup cda = some ⟨c2, o2, .fields vs, s2⟩ ∧ vs[2]? = some (.str file tf) ∧ ((P.main.file : Str) == file) = true
  top : (P.main.scope.names.lookup ("super" : Str)).isSome = false
  sup : mg "super" = none
  cls : (clsIn K (He.ga K "FullYard")).isSome = true
  mro : mroIn K (He.ga K "FullYard") (.ref (He.ga K "FullYard")) = some true
  tp : nsIn K cStatics "thirdparty.any" = some none
  at_ : ks_superIn K (He.ga K "FullYard") (He.ga K "FullYard") "__init__" = some (some (.ref (He.ma K (He.ga K "Yard") "__init__")))
  ty : typeIn K (.ref (He.ma K (He.ga K "Yard") "__init__")) = some (.type "function")
  fn : fnIn K (He.ma K (He.ga K "Yard") "__init__") = true
abbrev plF : List Str := ["self", "pair", "box"]
def sp_F_init (K : PySem.W.Frag) : Sp := fun vs H Q _ => ∃ (y dx : Addr) (vp vx : V) (a b x : List Int), vs = [.ref y, vp, vx] ∧ H y = some (.ins (kC K true) dx []) ∧ Im K H vp (pairD (a, b)) ∧ Im K H vx (tI x) ∧ Bx a b x ∧ fillB a b x = true ∧ ∀ H', Kp [y] H H' → Yd K H' y true false [((a, b), x)] → Q .non H'
theorem scF : NScope ["self", "pair", "box", "__class__"] ["self", "pair", "box"] ["__class__"] (defScope s_F_init) := nscope_by (by decide +kernel)
theorem ok_F_init (T : Txt K mg) (B : Tab K w mg) (Y : Yrd K mg) (FI : FIni P K mg) : FnR P w K mg base CX0 8 (fiA K) (sp_F_init K) := by
  intro A outer s H us vs Q E hr e0 r hsp
  obtain ⟨y, dx, vp, vx, a, b, x, rfl, hy, ip, ix, hB, hfl, k⟩ := hsp
  obtain ⟨oc, c1, c2, kV, doc, pm, ct, od, an, o1, o2, osl, s1, s2, cda, cc, fvs, file, tf, lk, hcd, lc, lcd, hv2, hfile⟩ := FI.ex
  have KX : K.In s.heap := e0.mod.kin.keeps fun b o e => (e0.bs b o e).1
  have lim : s.heap.NoLimit := e0.mod.nolimit.keeps fun b o e => (e0.bs b o e).1
  obtain ⟨u0, u1, u2, rfl, r0, r1, r2⟩ : ∃ u0 u1 u2, us = [u0, u1, u2] ∧ RelV (.ref y) u0 ∧ RelV vp u1 ∧ RelV vx u2 := by
    cases r with
    | cons a1 r =>
      cases r with
      | cons a2 r =>
        cases r with
        | cons a3 r => cases r; exact ⟨_, _, _, rfl, a1, a2, a3⟩
  obtain rfl : u0 = .ref y := r0
  let F : NF := ⟨"__init__", "FullYard.__init__", defArgs s_F_init, defBody s_F_init, defScope s_F_init, [("__class__", cc)], cda⟩
  have hcc : s.heap.IsCell cc (some (.ref (He.ga K "FullYard"))) := ⟨_, KX _ _ lc, rfl⟩
  have C : CellsAt F.cl ["__class__"] [some (.ref (He.ga K "FullYard"))] s.heap H := by
    refine ⟨rfl, fun z c e => ?_, fun z1 z2 c h1 h2 => ?_, fun i z hz => ?_⟩
    · have e1 : c = cc := by
        rw [List.lookup_cons] at e
        split at e
        · exact (Option.some.inj e).symm
        · cases e
      subst e1
      exact ⟨(e0.bs _ _ (e0.mod.kin _ _ lc)).2, _, hcc⟩
    · rw [List.lookup_cons] at h1 h2
      split at h1
      · split at h2
        · rename_i _ q1 _ q2
          exact (beq_iff_eq.mp q1).trans (beq_iff_eq.mp q2).symm
        · cases h2
      · cases h1
    · match i, hz with
      | 0, hz =>
        cases hz
        exact ⟨cc, rfl, fun v hv => by cases hv; exact ⟨_, rfl, hcc⟩⟩
  refine ks_codeAny_call_defAt (fd := ksFn "__init__" "FullYard.__init__" (defArgs s_F_init) (defBody s_F_init) (defScope s_F_init) .none kV doc pm an (.ref cda) ct cc) (body := defBody s_F_init) (binds := plF.zip [Value.ref y, u1, u2]) hr.depth (KX _ _ lk) rfl lim (codeRec_of KX hcd) rfl (.of_eq rfl) scF.nocell (fun ⟨n, _⟩ hz => scF.par n (List.of_mem_zip hz).1) (fun h₀ hns hk => ?_)
  have rr : Vals [V.ref y, vp, vx] [Value.ref y, u1, u2] := .cons rfl (.cons r1 (.cons r2 .nil))
  have Nv := inv_startN (CX := CX0) (E := E) (f := fiA K) (F := F) (h₁ := h₀) (tk := s.toks + (plF.zip [Value.ref y, u1, u2]).length) scF hr.hd e0 rfl rr C hns hk
  obtain ⟨cdD, hcdD⟩ := Option.isSome_iff_exists.mp FI.cls
  let X : Cx := ncx CX0 P w K mg base ["self", "pair", "box", "__class__"] F (fiA K) A outer s H E
  have hI : L2.Inv X [] (startF ["self", "pair", "box", "__class__"] [V.ref y, vp, vx] [some (.ref (He.ga K "FullYard"))]) H { s with heap := h₀, toks := s.toks + (plF.zip [Value.ref y, u1, u2]).length } := Nv
  obtain ⟨oD, hD1, hD2⟩ : ∃ oD, h₀.get? (He.ga K "FullYard") = some oD ∧ oD.data = .cls cdD := by
    unfold clsIn at hcdD
    split at hcdD
    · rename_i c d cd' sl ho
      cases hcdD
      exact ⟨_, hI.kIn _ _ ho, rfl⟩
    · cases hcdD
  obtain ⟨odx, J⟩ := inst_of hI hy
  refine ks_wpAt_execs_cons (ks_wpAt_Expr_any (ks_wpAt_MethodCall (ks_wpAt_super_base (f := fiA K) (cc := cda) (env := X.env) rfl rfl (by decide +kernel) rfl (hk _ _ (KX _ _ lk)) rfl rfl rfl (hk _ _ (KX _ _ lcd)) rfl hv2 hfile FI.top ?_)))
  obtain ⟨mb, hb1, hb2⟩ := hI.mod.blt
  refine ks_loadName_global rfl rfl (PySem.Calls.loadGlobal_builtin (by exact hI.mod.glob.keeps hI.bk) FI.sup (by exact hb1.keeps hI.bk) ((hb2 "super" (by decide +kernel)).trans (by decide +kernel)) ⟨rfl, ?_⟩)
  refine wpAny_loadName_free rfl rfl rfl ⟨_, hk _ _ (KX _ _ lc), rfl⟩ ?_
  refine wpAny_loadName_local (v := .ref y) rfl rfl hns rfl ?_
  refine ks_wpAny_isType_cls hD1 hD2 ⟨rfl, ?_⟩
  refine ks_wpAny_call_super hD1 hD2 J.at_ J.cls (fun c e => nomatch e) (looks_mroIn hI.kIn FI.mro) (fun h1 hso k1 => ?_)
  have Nv1 : L2.Inv X [] (startF ["self", "pair", "box", "__class__"] [V.ref y, vp, vx] [some (.ref (He.ga K "FullYard"))]) H { s with heap := h1, toks := s.toks + (plF.zip [Value.ref y, u1, u2]).length } := hI.kept (t' := s.toks + (plF.zip [Value.ref y, u1, u2]).length) k1
  obtain ⟨of, hof, hofc⟩ : ∃ of, h1.get? (He.ma K (He.ga K "Yard") "__init__") = some of ∧ of.cls = .type "function" := by
    have ht : (K.lookup (He.ma K (He.ga K "Yard") "__init__")).map (·.cls) = some (.type "function") := FI.ty
    cases z : K.lookup (He.ma K (He.ga K "Yard") "__init__") with
    | none => rw [z] at ht; cases ht
    | some of => rw [z] at ht; exact ⟨of, Nv1.kIn _ _ z, Option.some.inj ht⟩
  have hat := FI.at_
  unfold ks_superIn at hat
  rw [hcdD] at hat
  refine ks_wpAny_getMethod_super hso (looks_opaque Nv1.kIn FI.tp) (l₀ := cdD.mro) (fun A Q E s k q => wpAny_bind ((looks_clsIn Nv1.kIn hcdD) A _ E s k (wpAny_pure q))) rfl Nv1.kIn hat hof hofc (ks_ne Nv1.kIn (inst_of Nv1 hy).choose_spec hcdD) (by decide +kernel) ?_
  have I2 := ClX.met_new (g := He.ma K (He.ga K "Yard") "__init__") (C := y) Nv1
  refine ClX.callwith_cm (X := X) I2 (ClX.base_none Nv1 (Nat.le_refl _)) FI.fn ?_ rfl rfl
  have hr7 : Room 7 X.A := hr.deeper _
  have hA : ∀ (p1 p2 : Pos), PA X [.Name "pair" p1, .Name "box" p2] (tCons (tVar 1) (tCons (tVar 2) tNil)) := fun p1 p2 => pa_cons (pv 1) (pa_cons (pv 2) pa_nil)
  refine thn ((hA _ _).run _ _ _ _ _ (fun vs' H' => vs' = [vp, vx] ∧ H' = H) I2 ⟨_, rfl, _, rfl, rfl, rfl⟩) (fun us3 s3 ⟨vs3, H3, I3, r3, e1, e2⟩ => ?_)
  subst e1
  rw [e2] at I3
  refine ⟨⟨ClX.pin_at I3, I3.kIn⟩, ?_⟩
  refine thn (ClX.run_cm (Q := fun _ H4 => Kp [y] H H4 ∧ Yd K H4 y true false [((a, b), x)]) (E := E0) (raw0 (ok_Y_init T B Y) T.b_Y_init) (hr7.mono (by decide)) pass0 I3 r3 ⟨y, dx, vp, vx, true, a, b, x, rfl, hy, ip, ix, hB, fun H' k' hy' => ⟨k', hy'⟩⟩) (fun u4 s4 ⟨v4, H4, I4, r4, k4, hy4⟩ => ?_)
  have hS : PSs X ((defBody s_F_init).drop 1) (tDrop (tMeth (kC K true) "judge" (sp_jdg K true) [] E0 (tVar 0) (tCons (tOp (rIxT K) (tFld K (tVar 0) "pages") (tC (.int 0))) tNil))) :=
    pss_one (ps_expr (pe_meth (pv 0) (Y.kl true).cl (Y.kl true).mj (judge_ok T B Y true) (hr7.mono (by decide)) (judge_b T true) .nil pass0 (pa_cons (pe_ix (ixT (K := K) rfl) (peFld (K := K) rfl (pv 0)) pe_int (fun _ _ => rfl)) pa_nil)))
  refine wpAt_of_wpAny (wpAny_mono (hS.run [] s4 _ H4 { nx := fun _ H' => Q .non H', rt := Q } I4 ?_) (fun fl s' hs => ?_) fun e s' hs => hs)
  · refine (dMeth (K := K) (d := .none) (ds := [pageD ((a, b), x)]) rfl hy4 (m := "judge") (dacons (dix (dPages Y rfl hy4) dint at0') danil) (yl_judge false) fun vs H5 k5 hv Q5 q5 => ?_) H4 .refl _ fun _ H5 k5 _ => ?_
    · obtain ⟨v1, rfl, i1⟩ := hv.inv1
      exact ⟨_, v1, a, b, x, rfl, i1, hB, (fun _ => hfl), fun H6 k6 => q5 _ H6 k6 .non⟩
    · exact k H5 (k4.trans k5.up) (hy4.up k5)
  · have fin : ∀ {σ' : L2.St} {H' : Hp} {v : V} {u : Value}, L2.Inv X [] σ' H' s' → L2.RelV v u → Q v H' → CE outer P w H s Q u s' := fun {σ' H' v u} J rv q => ⟨v, H', J.os, J.bare, J.base, J.hok, rv, q⟩
    match fl, hs with
    | .ret u, ⟨v, σ', H', J, rv, q⟩ => exact fin J rv q
    | .next, ⟨σ', H', J, q⟩ => exact fin (v := V.non) (u := Value.none) J rfl q
    | .brk, ⟨_, _, _, q⟩ => cases q
    | .cont, ⟨_, _, _, q⟩ => cases q
end
end TB
namespace TB
open PySem PySem.Spec PyProof.Rows L2
section
variable {P : Program} {w : World} {K : PySem.W.Frag} {mg : Str → Option Value} {base : Heap}

/-- a new yard, its __init__ promised by the values -/
theorem dNewR {σ : L2.St} {H : Hp} {fu : Bool} {sp : Sp} {E : XK} {ta : TA} {Q : VK} {a b x : List Int} (ha : DA K ta σ H [pairD (a, b), tI x]) (hs : ∀ (y dx : Addr) (v1 v2 : V) (H1 : Hp) (Q1 : VK), H1 y = some (.ins (kC K fu) dx []) → Im K H1 v1 (pairD (a, b)) → Im K H1 v2 (tI x) → (∀ H', Kp [y] H1 H' → Yd K H' y fu false [((a, b), x)] → Q1 .non H') → sp [.ref y, v1, v2] H1 Q1 E)
    (k : RetY K H Q fu [((a, b), x)]) : StX.tMakeR (kC K fu) sp E ta σ H Q := ha H .refl _ fun vs H1 k1 hv y dx hy hdx hne => by
  obtain ⟨v1, v2, rfl, i1, i2⟩ := hv.inv2
  have ka : Kp [] H1 (upd (upd H1 dx (.own y)) y (.ins (kC K fu) dx [])) := (Kp.new hdx).wn hy
  refine hs y dx v1 v2 _ _ upd_same (i1.kp ka) (i2.kp ka) fun H' k' hy' => ⟨rfl, ?_⟩
  have hy0 : H y = none := k1.free hy
  exact k y H' (Kp.drop (k1.trans ka) hy0 k') hy0 hy'

abbrev nl_F_fresh : List Str := ["self"]
theorem sc_F_fresh : FnScope nl_F_fresh ["self"] (defScope s_F_fresh) := ⟨rfl, rfl, rfl, by decide +kernel, rfl, by decide +kernel, by decide +kernel⟩

theorem ok_F_fresh (T : Txt K mg) (B : Tab K w mg) (Y : Yrd K mg) (FI : FIni P K mg) : FnOk P w K mg base CX0 10 (He.ma K (He.ga K "FullYard") "fresh") (fdA K (He.ma K (He.ga K "FullYard") "fresh")) ["self"] (sp_fresh K true) := by
  refine T.f_F_fresh.ok sc_F_fresh (fun vs H Q E h => ?_) (fun cdv A outer s H vs Q E hr h => ?_)
  · obtain ⟨y, b, f, n, gs, rfl, hy, hg, k⟩ := h
    rfl
  · have nd := sc_F_fresh.nd
    have hu := hr.units
    obtain ⟨y, b, f, n, gs, rfl, hy, hg, k⟩ := h
    refine ⟨_, PSs.nox (pss_one (ps_ret (StX.pe_makeR (C := kC K true) (Y.kl true).mi (ok_F_init T B Y FI) (hr.mono (by decide)) (by rfl) Y.gF pass0 (pa_cons (pe_prop (pv 0) (Y.kl true).cl (Y.kl true).p_pair.choose_spec (ok_Y_pair T B Y) (hr.mono (by decide)) T.b_Y_pair .nil pass0 (by rfl)) (pa_cons (pe_prop (pv 0) (Y.kl true).cl (Y.kl true).p_box.choose_spec (ok_Y_box T B Y) (hr.mono (by decide)) T.b_Y_box .nil pass0 (by rfl)) pa_nil))))), ?_⟩
    exact dNewR (fu := true) (dacons (dPair Y rfl hy hg.ne) (dacons (dBox Y rfl hy hg.ne) danil)) (fun y dx v1 v2 H1 Q1 h1 i1 i2 q => ⟨y, dx, v1, v2, _, _, _, rfl, h1, i1, i2, hg.bl, hg.fl.trans (hg.fu rfl), q⟩) k


theorem fresh_ok (T : Txt K mg) (B : Tab K w mg) (Y : Yrd K mg) (FI : FIni P K mg) (fu : Bool) : FnOk P w K mg base CX0 10 (He.ma K (kC K fu) "fresh") (fdA K (He.ma K (kC K fu) "fresh")) ["self"] (sp_fresh K fu) := by
  cases fu with
  | false => exact (ok_Y_fresh T B Y).mono (by decide)
  | true => exact ok_F_fresh T B Y FI
theorem fresh_b (T : Txt K mg) (fu : Bool) : Binds K (fdA K (He.ma K (kC K fu) "fresh")) ["self"] [] := by
  cases fu with
  | false => exact T.b_Y_fresh
  | true => exact T.b_F_fresh
theorem yl_fresh (b : Bool) (pa la : Addr) : (yF b pa la).lookup ("fresh" : Str) = none := rfl

abbrev nl_Y_copy : List Str := ["self", "found"]
theorem sc_Y_copy : FnScope nl_Y_copy ["self"] (defScope s_Y_copy) := ⟨rfl, rfl, rfl, by decide +kernel, rfl, by decide +kernel, by decide +kernel⟩
def sp_copy (K : PySem.W.Frag) : Sp := fun vs H Q _ => ∃ (y : Addr) (fu b f : Bool) (n : Nat) (gs : List Pg), vs = [.ref y] ∧ Yd K H y fu b gs ∧ Gd fu n f gs ∧ RetY K H Q fu gs
theorem ok_Y_copy (T : Txt K mg) (B : Tab K w mg) (Y : Yrd K mg) (FI : FIni P K mg) : FnOk P w K mg base CX0 11 (He.ma K (He.ga K "Yard") "copy") (fdA K (He.ma K (He.ga K "Yard") "copy")) ["self"] (sp_copy K) := by
  refine T.f_Y_copy.ok sc_Y_copy (fun vs H Q E h => ?_) (fun cdv A outer s H vs Q E hr h => ?_)
  · obtain ⟨y, fu, b, f, n, gs, rfl, hy, hg, k⟩ := h
    rfl
  · have nd := sc_Y_copy.nd
    have hu := hr.units
    obtain ⟨y, fu, b, f, n, gs, rfl, hy, hg, k⟩ := h
    refine ⟨_, PSs.nox (pss_cons (ps_set (i := 1) nd rfl (Or.inl rfl) (pe_meth0 (pv 0) (Y.kl fu).cl (Y.kl fu).mf (fresh_ok T B Y FI fu) (hr.mono (by decide)) (fresh_b T fu) .nil pass0))
      (pss_cons (ps_expr (pe_meth (pv 1) (Y.kl fu).cl (Y.kl fu).m_stand (ok_Y_stand (K := K) T B Y) (hr.mono (by decide)) T.b_Y_stand .nil pass0 (pa_cons (peFld (K := K) rfl (pv 0)) pa_nil)))
      (pss_cons (psFld (K := K) rfl (pv 1) (peFld (K := K) rfl (pv 0)))
      (pss_one (ps_ret (pv 1)))))), ?_⟩
    refine dMethX rfl hy (m := "fresh") danil (yl_fresh b) fun vs H1 k1 hv => ?_
    cases hv
    refine ⟨y, b, f, n, gs, rfl, hy.up k1, hg, fun z H2 k2 hz hyz => ?_⟩
    have hz0 : H z = none := k1.free hz
    have hne : z ≠ y := fun e => by
      obtain ⟨dx, pa, la, h1, _⟩ := hy
      rw [e, h1] at hz0
      cases hz0
    refine dMethX rfl hyz (m := "stand") (dacons (dPages Y rfl ((hy.up k1).up k2)) danil) (yl_stand false) fun vs H3 k3 hv => ?_
    obtain ⟨v1, rfl, i1⟩ := hv.inv1
    obtain ⟨dx, pa, la, h1, h2, h3⟩ := hyz.up k3
    refine ⟨z, dx, v1, fu, _, gs, rfl, h1, i1, hg.ne, (by show 4 < 900; decide), yd_sort _ _ _, fun H4 pa' la' k4 h4 i4 j4 => ?_⟩
    have hy4 : Yd K H4 z fu false gs := ⟨dx, pa', la', h4, i4, j4⟩
    have k04 : Kp [] H H4 := Kp.drop ((k1.trans k2).trans k3) hz0 k4
    refine qsf Y rfl h4 (Y.kl fu).aW (by show 4 < 1000; decide) (dWord Y rfl (hy.up k04)) fun v H5 k5 hv => ?_
    obtain rfl := hv.strI
    have kk : Kp [z] H5 (upd H5 z (.ins (kC K fu) dx (putF "word" (.str "same") (yF false pa' la')))) := Kp.wi (k5.get h4) (by simp)
    have hy6 : Yd K (upd H5 z (.ins (kC K fu) dx (putF "word" (.str "same") (yF false pa' la')))) z fu false gs := ⟨dx, pa', la', upd_same, (i4.kp k5).kp kk, (j4.kp k5).kp kk⟩
    exact ⟨_, rfl, k z _ (Kp.drop (k04.trans k5) hz0 kk) hz0 hy6⟩

end
end TB
namespace TB
open PySem PySem.Spec PyProof.Rows L2
section
variable {P : Program} {w : World} {K : PySem.W.Frag} {mg : Str → Option Value} {base : Heap}

/-- the deck: the great numbers, the cells, how many were drawn -/
def Dk (H : Hp) (d p q : Addr) : Prop := ∃ (bs cs : List Int) (n : Int), H d = some (.lst [.ref p, .ref q, .int n]) ∧ H p = some (.lst (bs.map V.int)) ∧ H q = some (.lst (cs.map V.int)) ∧ d ≠ p ∧ d ≠ q ∧ p ≠ q ∧ cs ≠ []
theorem Dk.kp {H H' : Hp} {d p q : Addr} (k : Kp [] H H') (h : Dk H d p q) : Dk H' d p q := by
  obtain ⟨bs, cs, n, h1, h2, h3, h4⟩ := h
  exact ⟨bs, cs, n, k.get h1, k.get h2, k.get h3, h4⟩
/-- an item of a list -/
theorem rix {K : PySem.W.Frag} {σ : L2.St} {H : Hp} {i : Nat} {p : Addr} {xs : List V} {j : Int} {v : V} {Q : VK} (hv : σ[i]? = some (some (.ref p))) (hp : SqL K H p xs) (e : atI xs j = some v) (q : Q v H) : tOp (rIxL K) (tVar i) (tC (.int j)) σ H Q := ⟨_, hv, p, xs, j, v, rfl, rfl, hp, e, q⟩
theorem dixR {σ : L2.St} {H : Hp} {i : Nat} {p : Addr} {xs : List V} {j m : Int} (hv : σ[i]? = some (some (.ref p))) (hp : H p = some (.lst xs)) (e : atI xs j = some (.int m)) : DE K (tOp (rIxL K) (tVar i) (tC (.int j))) σ H (.int m) := fun H1 k Q q =>
  rix hv (SqL.of (k.get hp)) e (q _ H1 .refl (.int m))
/-- an item of a list that an item of a list is -/
theorem dixRR {σ : L2.St} {H : Hp} {i : Nat} {d p : Addr} {xs : List V} {l : List Int} {j m t : Int} {tj : TE} (hv : σ[i]? = some (some (.ref d))) (hd : H d = some (.lst xs)) (e : atI xs j = some (.ref p)) (hp : H p = some (.lst (l.map V.int))) (ht : DE K tj σ H (.int t)) (e2 : atI (l.map V.int) t = some (.int m)) : DE K (tOp (rIxL K) (tOp (rIxL K) (tVar i) (tC (.int j))) tj) σ H (.int m) := fun H1 k Q q =>
  rix hv (SqL.of (k.get hd)) e (ht H1 k _ fun v H2 k2 hv => by
    obtain rfl := hv.intI
    exact ⟨p, _, t, _, rfl, rfl, SqL.of (k2.get (k.get hp)), e2, q _ H2 k2 (.int m)⟩)
theorem dlenR {σ : L2.St} {H : Hp} {i : Nat} {d p : Addr} {xs : List V} {l : List Int} {j : Int} (hv : σ[i]? = some (some (.ref d))) (hd : H d = some (.lst xs)) (e : atI xs j = some (.ref p)) (hp : H p = some (.lst (l.map V.int))) : DE K (tCB (fun xs H Q => ∃ p ys, xs = [.ref p] ∧ (SqL K H p ys ∨ SqT K H p ys) ∧ Q (.int ys.length) H) (tCons (tOp (rIxL K) (tVar i) (tC (.int j))) tNil)) σ H (.int (l.length : Int)) := fun H1 k Q q =>
  rix hv (SqL.of (k.get hd)) e ⟨p, _, rfl, .inl (SqL.of (k.get hp)), by rw [List.length_map]; exact q _ H1 .refl (.int _)⟩
theorem atI3a {a b c : V} : atI [a, b, c] 0 = some a := atI_nat (j := 0) rfl
theorem atI3b {a b c : V} : atI [a, b, c] 1 = some b := atI_nat (j := 1) rfl
theorem atI3c {a b c : V} : atI [a, b, c] 2 = some c := atI_nat (j := 2) rfl
theorem dneE {σ : L2.St} {H : Hp} {i : Nat} {d p : Addr} {xs : List V} {l : List Int} {j : Int} (hv : σ[i]? = some (some (.ref d))) (hd : H d = some (.lst xs)) (e : atI xs j = some (.ref p)) (hp : H p = some (.lst (l.map V.int))) : DE K (tOp (rNeD K) (tOp (rIxL K) (tVar i) (tC (.int j))) (tLst tNil)) σ H (.bool (!decide (l.map PyData.int = []))) := fun H1 k Q q =>
  rix hv (SqL.of (k.get hd)) e ⟨Evl.sz_of (by simp), fun p' np => ⟨_, _, .lst (SqL.of ((Kp.new (l := []) np).get (k.get hp))) (ImAll.ints (K := K) (H := upd H1 p' (.lst [])) l).dp, .lst (SqL.of upd_same) .nil, shaped_ints l, shaped_nil, by rw [eqv_nil]; exact q _ _ (.new np) (.bl _)⟩⟩
theorem atMod (l : List Int) (m : Int) (h : l ≠ []) : ∃ c, atI (l.map V.int) (m % (l.length : Int)) = some (.int c) := by
  have h0 := List.length_pos_iff.mpr h
  have h1 := Int.emod_nonneg m (show (l.length : Int) ≠ 0 by omega)
  have h2 := Int.emod_lt_of_pos m (show 0 < (l.length : Int) by omega)
  obtain ⟨k, hk⟩ := Int.eq_ofNat_of_zero_le h1
  have hl : k < l.length := by omega
  refine ⟨l[k], ?_⟩
  rw [hk]
  refine atI_nat ?_
  rw [List.getElem?_map, get_lt hl]; rfl

abbrev nl_law_draw : List Str := ["_law_deck_here", "_law_many", "_law_rest", "_law_cell", "_law_mixed_here"]
theorem sc_law_draw : FnScope nl_law_draw ["_law_deck_here", "_law_many"] (defScope s_law_draw) := ⟨rfl, rfl, rfl, by decide +kernel, rfl, by decide +kernel, by decide +kernel⟩
def sp_law_draw (K : PySem.W.Frag) : Sp := fun vs H Q _ => ∃ (d p q : Addr) (m : Int), vs = [.ref d, .int m] ∧ Dk H d p q ∧ 0 < m ∧ m ≤ 1000 ∧ ∀ (r : Int) H', 0 ≤ r → r < m → Kp [d, p] H H' → Dk H' d p q → Q (.int r) H'
theorem ok_law_draw (T : Txt K mg) : FnOk P w K mg base CX0 1 (He.ga K "_law_draw") (fdA K (He.ga K "_law_draw")) ["_law_deck_here", "_law_many"] (sp_law_draw K) := by
  refine T.f_law_draw.ok sc_law_draw (fun vs H Q E h => ?_) (fun cdv A outer s H vs Q E hr h => ?_)
  · obtain ⟨d, p, q, m, rfl, hD, hm, hm2, k⟩ := h
    rfl
  · have nd := sc_law_draw.nd
    have hu := hr.units
    obtain ⟨d, p, q, m, rfl, hD, hm, hm2, k⟩ := h
    refine ⟨_, PSs.nox (pss_cons (ps_if (pt_cmpR (opNeD (K := K) rfl hu) (pe_ix (ixL (K := K) rfl) (pv 0) pe_int (fun _ _ => rfl)) (pe_lst pa_nil) (nomark _)) (pss_cons (ps_set (i := 2) nd rfl (Or.inl rfl) (pe_ix (ixL (K := K) rfl) (pe_ix (ixL (K := K) rfl) (pv 0) pe_int (fun _ _ => rfl)) pe_int (fun _ _ => rfl)))
      (pss_cons (ps_asg (pe_op op_fdivW (pv 2) (pv 1)) (pg_sub (pe_ix (ixL (K := K) rfl) (pv 0) pe_int (fun _ _ => rfl)) pe_int set_list))
      (pss_cons (ps_if (pt_cmpR op_eq (pe_ix (ixL (K := K) rfl) (pe_ix (ixL (K := K) rfl) (pv 0) pe_int (fun _ _ => rfl)) pe_int (fun _ _ => rfl)) pe_int (nomark _)) (pss_one (ps_expr (pe_bm PySem.F.plainAttrs_list PySem.F.slot_list_pop PySem.F.type_list_pop mt_popAt (pe_ix (ixL (K := K) rfl) (pv 0) pe_int (fun _ _ => rfl)) (pa_cons pe_int pa_nil)))) pss_nil)
      (pss_one (ps_ret (pe_op op_mod (pe_callTy call_int1 (by rfl) T.n_int (by decide +kernel) (pa_cons (pv 2) pa_nil)) (pv 1))))))) pss_nil)
      (pss_cons (ps_asg (pe_op op_add (pe_ix (ixL (K := K) rfl) (pv 0) pe_int (fun _ _ => rfl)) pe_int) (pg_sub (pv 0) pe_int set_list))
      (pss_cons (ps_set (i := 3) nd rfl (Or.inl rfl) (pe_ix (ixL (K := K) rfl) (pe_ix (ixL (K := K) rfl) (pv 0) pe_int (fun _ _ => rfl)) (pe_op op_mod (pe_callTy call_int1 (by rfl) T.n_int (by decide +kernel) (pa_cons (pe_ix (ixL (K := K) rfl) (pv 0) pe_int (fun _ _ => rfl)) pa_nil)) (pe_callB (clLen (K := K) rfl) (by rfl) T.n_len (by decide +kernel) (pa_cons (pe_ix (ixL (K := K) rfl) (pv 0) pe_int (fun _ _ => rfl)) pa_nil))) (fun _ _ => rfl)))
      (pss_cons (ps_set (i := 4) nd rfl (Or.inl rfl) (pe_op op_mod (pe_callTy call_int1 (by rfl) T.n_int (by decide +kernel) (pa_cons (pe_op op_add (pe_op op_mod (pe_callTy call_int1 (by rfl) T.n_int (by decide +kernel) (pa_cons (pv 3) pa_nil)) pe_int) (pe_op op_mul pe_int (pe_ix (ixL (K := K) rfl) (pv 0) pe_int (fun _ _ => rfl)))) pa_nil)) pe_int))
      (pss_cons (ps_set (i := 4) nd rfl (Or.inl rfl) (pe_op op_mod (pe_callTy call_int1 (by rfl) T.n_int (by decide +kernel) (pa_cons (pe_op op_add (pe_op op_mul (pv 4) (pv 4)) (pe_op op_mul pe_int (pe_ix (ixL (K := K) rfl) (pv 0) pe_int (fun _ _ => rfl)))) pa_nil)) pe_int))
      (pss_one (ps_ret (pe_op op_mod (pe_op op_fdivW (pe_op op_mod (pe_callTy call_int1 (by rfl) T.n_int (by decide +kernel) (pa_cons (pe_op op_mul (pv 4) (pv 4)) pa_nil)) pe_int) pe_int) (pv 1))))))))), ?_⟩
    obtain ⟨bs, cs, n, h1, h2, h3, n1, n2, n3, hc⟩ := hD
    cases bs with
    | cons r0 bs =>
      refine qif (b := true) (DT.is (dtv (K := K) (dneE (l := r0 :: bs) rfl h1 atI3a h2)) (by simp)) (fun _ H1 k1 => ?_) (fun e => nomatch e)
      have a1 := k1.get h1
      have a2 := k1.get h2
      have a3 := k1.get h3
      refine qasg (K := K) (d := .int r0) (dixRR rfl a1 atI3a a2 dint (atI_nat (j := 0) rfl)) fun v H2 k2 hv => ?_
      obtain rfl := hv.intI
      refine qasgG (K := K) (dI (dv rfl (.int r0)) (dv rfl (.int m)) (wide_div hm (b := 20) (by omega) (by decide) (by decide))) fun v H3 k3 hv => ?_
      obtain rfl := hv.intI
      have k13 := k2.trans k3
      have c1 := k13.get a1
      have c2 := k13.get a2
      refine rix rfl (SqL.of c1) atI3a ⟨p, _, 0, 0, rfl, rfl, c2, ixN_ofNat _ 0 (by simp), ?_⟩
      have kp4 : Kp [d, p] H3 (upd H3 p (.lst (V.int (r0 / m) :: bs.map V.int))) := Kp.wl c2 (by simp)
      have d1 : upd H3 p (.lst (V.int (r0 / m) :: bs.map V.int)) d = some (.lst [.ref p, .ref q, .int n]) := by rw [upd_ne n1]; exact c1
      have d2 : upd H3 p (.lst (V.int (r0 / m) :: bs.map V.int)) p = some (.lst ((r0 / m :: bs).map V.int)) := upd_same
      have d3 : upd H3 p (.lst (V.int (r0 / m) :: bs.map V.int)) q = some (.lst (cs.map V.int)) := by rw [upd_ne n3.symm]; exact k13.get a3
      have k04 : Kp [d, p] H (upd H3 p (.lst (V.int (r0 / m) :: bs.map V.int))) := (k1.trans k13).up.trans kp4
      show tSeq _ _ _ _ (upd H3 p (.lst (V.int (r0 / m) :: bs.map V.int)))
      generalize upd H3 p (.lst (V.int (r0 / m) :: bs.map V.int)) = H4 at *
      have e0 := Int.emod_nonneg r0 (show m ≠ 0 by omega)
      have e1 := Int.emod_lt_of_pos r0 hm
      refine qif (b := decide (r0 / m = 0)) (DT.is (dtv (K := K) (deq (dixRR rfl d1 atI3a d2 dint (atI_nat (j := 0) rfl)) dint rfl rfl rfl)) (by simp)) (fun _ H5 k5 => ?_) (fun _ H5 k5 => ?_)
      · refine rix rfl (SqL.of (k5.get d1)) atI3a ⟨.inl ⟨rfl, _, SqL.of (k5.get d2)⟩, p, _, 0, 0, _, rfl, rfl, k5.get d2, by decide, by decide, (ixN_seq (ixN_ofNat _ 0 (by simp))).1, rfl, ?_⟩
        have kp6 : Kp [d, p] H5 (upd H5 p (.lst (bs.map V.int))) := Kp.wl (k5.get d2) (by simp)
        refine sretV (K := K) (d := .int (r0 % m)) (dI (dcint (dv rfl (.int r0))) (dv rfl (.int m)) hm) rfl fun H7 k7 => ?_
        refine k _ H7 e0 e1 (k04.trans (k5.up.trans (kp6.trans k7.up))) (Dk.kp k7 ⟨bs, cs, n, ?_, upd_same, ?_, n1, n2, n3, hc⟩)
        · show upd H5 p _ d = _
          rw [upd_ne n1]; exact k5.get d1
        · show upd H5 p _ q = _
          rw [upd_ne n3.symm]; exact k5.get d3
      · refine sretV (K := K) (d := .int (r0 % m)) (dI (dcint (dv rfl (.int r0))) (dv rfl (.int m)) hm) rfl fun H7 k7 => ?_
        exact k _ H7 e0 e1 (k04.trans (k5.up.trans k7.up)) (Dk.kp (k5.trans k7) ⟨_, cs, n, d1, d2, d3, n1, n2, n3, hc⟩)
    | nil =>
      refine qif (b := false) (DT.is (dtv (K := K) (dneE (l := []) rfl h1 atI3a h2)) (by simp)) (fun e => nomatch e) (fun _ H1 k1 => ?_)
      have a1 := k1.get h1
      have a2 := k1.get h2
      have a3 := k1.get h3
      refine qasgG (K := K) (d := .int (n + 1)) (dI0 (dixR rfl a1 atI3c) dint) fun v H2 k2 hv => ?_
      obtain rfl := hv.intI
      have b1 := k2.get a1
      refine ⟨_, rfl, d, _, 2, 2, rfl, rfl, b1, rfl, ?_⟩
      have kd : Kp [d, p] H2 (upd H2 d (.lst [.ref p, .ref q, .int (n + 1)])) := Kp.wl b1 (by simp)
      have d1 : upd H2 d (.lst [.ref p, .ref q, .int (n + 1)]) d = some (.lst [.ref p, .ref q, .int (n + 1)]) := upd_same
      have d2 : upd H2 d (.lst [.ref p, .ref q, .int (n + 1)]) p = some (.lst (([] : List Int).map V.int)) := by rw [upd_ne n1.symm]; exact k2.get a2
      have d3 : upd H2 d (.lst [.ref p, .ref q, .int (n + 1)]) q = some (.lst (cs.map V.int)) := by rw [upd_ne n2.symm]; exact k2.get a3
      have k03 : Kp [d, p] H (upd H2 d (.lst [.ref p, .ref q, .int (n + 1)])) := (k1.trans k2).up.trans kd
      show tSeq _ _ _ _ (upd H2 d (.lst [.ref p, .ref q, .int (n + 1)]))
      generalize upd H2 d (.lst [.ref p, .ref q, .int (n + 1)]) = H3 at *
      obtain ⟨c0, hc0⟩ := atMod cs (n + 1) hc
      have hcl := List.length_pos_iff.mpr hc
      refine qasg (K := K) (d := .int c0) (dixRR rfl d1 atI3b d3 (dI (dcint (dixR rfl d1 atI3c)) (dlenR rfl d1 atI3b d3) (by omega)) hc0) fun v H4 k4 hv => ?_
      obtain rfl := hv.intI
      have x1 := k4.get d1
      refine qasg (K := K) (dI (dcint (dI0 (dI (dcint (dv rfl (.int c0))) dint (by decide)) (dI dint (dixR rfl x1 atI3c) (.inl ⟨by decide, by decide⟩)))) dint (by decide)) fun v H5 k5 hv => ?_
      obtain rfl := hv.intI
      have y1 := k5.get x1
      generalize hA : (c0 % 4294966477 + 1640531513 * (n + 1)) % 4294966477 = A
      have hA0 : 0 ≤ A ∧ A < 4294966477 := by rw [← hA]; exact ⟨Int.emod_nonneg _ (by decide), Int.emod_lt_of_pos _ (by decide)⟩
      refine qasg (K := K) (dI (dcint (dI0 (dI (dv rfl (.int A)) (dv rfl (.int A)) (.inl ⟨by omega, by omega⟩)) (dI dint (dixR rfl y1 atI3c) (.inl ⟨by decide, by decide⟩)))) dint (by decide)) fun v H6 k6 hv => ?_
      obtain rfl := hv.intI
      generalize hB : (A * A + 86028121 * (n + 1)) % 4294966427 = B
      have hB0 : 0 ≤ B ∧ B < 4294966427 := by rw [← hB]; exact ⟨Int.emod_nonneg _ (by decide), Int.emod_lt_of_pos _ (by decide)⟩
      refine sretV (K := K) (d := .int (B * B % 4294966373 / 1024 % m)) (dI (dI (dI (dcint (dI (dv rfl (.int B)) (dv rfl (.int B)) (.inl ⟨by omega, by omega⟩))) dint (by decide)) dint (wide_div (b := 20) (by decide) (by decide) (by decide) (by decide))) (dv rfl (.int m)) hm) rfl fun H7 k7 => ?_
      exact k _ H7 (Int.emod_nonneg _ (by omega)) (Int.emod_lt_of_pos _ hm) (k03.trans (k4.trans (k5.trans (k6.trans k7))).up) (Dk.kp (k4.trans (k5.trans (k6.trans k7))) ⟨[], cs, n + 1, d1, d2, d3, n1, n2, n3, hc⟩)

end
end TB
namespace TB
open PySem PySem.Spec PyProof.Rows L2
section
variable {P : Program} {w : World} {K : PySem.W.Frag} {mg : Str → Option Value} {base : Heap}

theorem dabs {σ : L2.St} {H : Hp} {ta : TE} {i : Int} (ha : DE K ta σ H (.int i)) : DE K (tCB (fun xs H Q => ∃ i, xs = [.int i] ∧ Q (.int (if i < 0 then -i else i)) H) (tCons ta tNil)) σ H (.int (if i < 0 then -i else i)) := fun H1 k Q q =>
  ha H1 k _ fun v H2 k2 hv => by
    obtain rfl := hv.intI
    exact ⟨i, rfl, q _ H2 k2 (.int _)⟩


theorem rlst1 {σ : L2.St} {H : Hp} {te : TE} {tr : TA} {ds : List PyData} {D : Ends} (h : DL K te σ H ds) (k : ∀ p H1 xs, Kp [] H H1 → H p = none → H1 p = some (.lst xs) → ImAll K H1 xs ds → tr σ H1 (fun vs H2 => (V.ref p :: vs).length ≤ sizeLine ∧ ∀ q, H2 q = none → D.rt (.ref q) (upd H2 q (.lst (.ref p :: vs))))) : tRet (tLst (tCons te tr)) D σ H := h H .refl _ k
theorem tconsL {σ : L2.St} {H : Hp} {te : TE} {tr : TA} {ds : List PyData} {Q : List V → Hp → Prop} (h : DL K te σ H ds) (k : ∀ p H1 xs, Kp [] H H1 → H p = none → H1 p = some (.lst xs) → ImAll K H1 xs ds → tr σ H1 (fun vs H2 => Q (.ref p :: vs) H2)) : tCons te tr σ H Q := h H .refl _ k

abbrev nl_law_deck : List Str := ["_law_script", "_law_cells", "_law_cell"]
theorem sc_law_deck : FnScope nl_law_deck ["_law_script"] (defScope s_law_deck) := ⟨rfl, rfl, rfl, by decide +kernel, rfl, by decide +kernel, by decide +kernel⟩
def sp_law_deck (K : PySem.W.Frag) : Sp := fun vs H Q _ => ∃ (a : Addr) (ns : List Int), vs = [.ref a] ∧ SqL K H a (ns.map V.int) ∧ ns.length ≤ 63 ∧ ∀ (d p q : Addr) H', Kp [] H H' → H d = none → H p = none → H q = none → Dk H' d p q → Q (.ref d) H'
theorem ok_law_deck (T : Txt K mg) : FnOk P w K mg base CX0 1 (He.ga K "_law_deck") (fdA K (He.ga K "_law_deck")) ["_law_script"] (sp_law_deck K) := by
  refine T.f_law_deck.ok sc_law_deck (fun vs H Q E h => ?_) (fun cdv A outer s H vs Q E hr h => ?_)
  · obtain ⟨a, ns, rfl, ha, hl, k⟩ := h
    rfl
  · have nd := sc_law_deck.nd
    have hu := hr.units
    obtain ⟨a, ns, rfl, ha, hl, k⟩ := h
    refine ⟨_, PSs.nox (pss_cons (ps_setLc (i := 1) (own := [("_law_cell", 2)]) rfl nd rfl rfl (sw_true rfl rfl rfl (by decide +kernel)) (piL (K := K) rfl (pe_slice (slL (K := K) rfl) (pv 0) po_none (po_some pe_int))) (blkOk_by (N := nl_law_deck) (sc := defScope s_law_deck) (by decide +kernel)) (fun _ _ _ _ _ => (pg_name (i := 2) nd rfl (Or.inl rfl))) (fun _ _ _ _ _ => pts_nil) (fun _ _ _ _ _ => (pe_callB call_abs (by rfl) T.n_abs (by decide +kernel) (pa_cons (pv 2) pa_nil))))
      (pss_one (ps_ret (pe_lst (pa_cons (pe_lc (own := [("_law_cell", 2)]) rfl nd (piL (K := K) rfl (pv 1)) (blkOk_by (N := nl_law_deck) (sc := defScope s_law_deck) (by decide +kernel)) (fun _ _ _ _ _ => (pg_name (i := 2) nd rfl (Or.inl rfl))) (fun _ _ _ _ _ => (pts_one (pt_cmpR op_ge (pv 2) (pe_op op_pow pe_int pe_int) (nomark _)))) (fun _ _ _ _ _ => (pv 2))) (pa_cons (pe_op op_cat (pv 1) (pe_lst (pa_cons (pe_op op_add pe_int (pe_callB (clLen (K := K) rfl) (by rfl) T.n_len (by decide +kernel) (pa_cons (pv 1) pa_nil))) pa_nil))) (pa_cons pe_int pa_nil))))))), ?_⟩
    have hin := ImAll.ints (K := K) (H := H) ns
    have hcl : (cutD (ns.map PyData.int) none (some 63)).length ≤ 63 := by
      have : (cutD (ns.map PyData.int) none (some 63)).length ≤ (ns.map PyData.int).length := by unfold cutD; simp [List.length_take, List.length_drop]; omega
      simp at this; omega
    have hci : ∀ (i : Nat) d, (cutD (ns.map PyData.int) none (some 63))[i]? = some d → ∃ n, d = .int n ∧ (cutD ns none (some 63))[i]? = some n := by
      intro i d hd
      rw [cutD_map, List.getElem?_map] at hd
      cases e : (cutD ns none (some 63))[i]? with
      | none => rw [e] at hd; cases hd
      | some n => rw [e] at hd; exact ⟨n, (Option.some.inj hd).symm, rfl⟩
    let cs : List Int := (cutD ns none (some 63)).map fun n => if n < 0 then -n else n
    have hcs : cs.length = (cutD (ns.map PyData.int) none (some 63)).length := by rw [cutD_map]; simp [cs]
    refine qasgL (K := K) (ds := cs.map .int) (DL.is (dlcN (K := K) (fun _ => true) (fun i => .int (cs.getD i 0)) (dslL rfl ha hin donone (dosome (K := K) dint)) (by omega) (fun _ => rfl) (fun i y d H1 k1 hd hy => dyes) (fun i y d H1 k1 hd hy _ => ?_)) ?_) fun pc H1 xc k1 nc hpc hxc => ?_
    · obtain ⟨n, rfl, hn⟩ := hci i d hd
      refine DE.is (dabs (dv rfl hy)) ?_
      congr 1
      rw [List.getD_eq_getElem?_getD]
      simp [cs, hn]
    · rw [← hcs, show cs.length = (cs.map PyData.int).length by simp, gv_map]
    obtain rfl := ImAll.ints_inv cs hxc
    let bs : List Int := ((List.range cs.length).filter fun i => decide ((10 : Int) ^ 18 ≤ cs.getD i 0)).map fun i => cs.getD i 0
    have hb : gv (cs.map PyData.int).length (fun i => decide ((10 : Int) ^ 18 ≤ cs.getD i 0)) (fun i => .int (cs.getD i 0)) = bs.map PyData.int := by
      unfold gv
      simp [bs, List.map_map]
    refine rlst1 (K := K) (DL.is (dlcV (K := K) (ds := cs.map .int) (fun i => decide ((10 : Int) ^ 18 ≤ cs.getD i 0)) (fun i => .int (cs.getD i 0)) rfl (SqL.of hpc) hxc (by simp; omega) (fun _ => rfl) (fun i y d H2 k2 hd hy => ?_) (fun i y d H2 k2 hd hy _ => ?_)) hb) fun p H2 xs k2 np hp hx => ?_
    · obtain ⟨j, hj, rfl⟩ := getMap hd
      rw [getD_of' hj]
      exact DT.is (dtv (K := K) (dB0 (dv rfl hy) (dI dint dint ⟨by decide, by decide, by decide⟩))) (by simp)
    · obtain ⟨j, hj, rfl⟩ := getMap hd
      rw [getD_of' hj]
      exact dv rfl hy
    obtain rfl := ImAll.ints_inv bs hx
    refine ⟨_, rfl, ?_⟩
    refine (dlst (K := K) (dacons (dI0 dint (dlenV (ds := cs.map .int) rfl (SqL.of (k2.get hpc)) (hxc.kp k2))) danil)) H2 .refl _ fun b H3 ys k3 nb hb hy => ?_
    obtain ⟨v1, rfl, i1⟩ := hy.inv1
    obtain rfl := i1.intI
    have h3 := k3.get (k2.get hpc)
    refine ⟨pc, b, _, _, rfl, rfl, h3, hb, ?_, fun q nq => ?_⟩
    · rw [sizeLine_eq]; simp; omega
    refine ⟨Evl.sz_of (by simp), fun d nd => ?_⟩
    have hp3 := k3.get hp
    have hqp : q ≠ p := fun e => by rw [e, hp3] at nq; cases nq
    have e4 : (upd H3 q (.lst (cs.map V.int ++ [.int (11228 + ((cs.map PyData.int).length : Int))]))) p = some (.lst (bs.map V.int)) := by rw [upd_ne hqp.symm]; exact hp3
    have hdp : d ≠ p := fun e => by rw [e, e4] at nd; cases nd
    have hdq : d ≠ q := fun e => by rw [e, upd_same] at nd; cases nd
    have kq : Kp [] H3 (upd H3 q (.lst (cs.map V.int ++ [.int (11228 + ((cs.map PyData.int).length : Int))]))) := .new nq
    have k04 := k1.trans (k2.trans (k3.trans kq))
    refine k d p q _ (k04.trans (.new nd)) (k04.free nd) (k1.free np) ((k1.trans (k2.trans k3)).free nq) ⟨bs, cs ++ [11228 + ((cs.map PyData.int).length : Int)], 0, upd_same, ?_, ?_, hdp, hdq, hqp.symm, by simp⟩
    · rw [upd_ne hdp.symm]; exact e4
    · rw [upd_ne hdq.symm, upd_same, List.map_append]; rfl

end
end TB
namespace TB
open PySem PySem.Spec PyProof.Rows L2
section
variable {P : Program} {w : World} {K : PySem.W.Frag} {mg : Str → Option Value} {base : Heap}

/-- a draw -/
theorem drw {σ : L2.St} {H : Hp} {i : Nat} {d p q : Addr} {m : Int} {tm : TE} {E : XK} {Q : VK} (hv : σ[i]? = some (some (.ref d))) (hD : Dk H d p q) (h0 : 0 < m) (h1 : m ≤ 1000) (hm : DE K tm σ H (.int m)) (k : ∀ (r : Int) H', 0 ≤ r → r < m → Kp [d, p] H H' → Dk H' d p q → Q (.int r) H') : tCall (sp_law_draw K) [] E (tCons (tVar i) (tCons tm tNil)) σ H Q :=
  ⟨_, hv, hm H .refl _ fun v H1 k1 hm1 => by
    obtain rfl := hm1.intI
    exact ⟨d, p, q, m, rfl, hD.kp k1, h0, h1, fun r H2 r0 r1 k2 hD2 => k r H2 r0 r1 (k1.up.trans k2) hD2⟩⟩
theorem Dk.ne {H : Hp} {d p q x : Addr} (h : Dk H d p q) (e : H x = none) : x ≠ d ∧ x ≠ p ∧ x ≠ q := by
  obtain ⟨bs, cs, n, h1, h2, h3, _⟩ := h
  exact ⟨(fun z => by rw [z, h1] at e; cases e), (fun z => by rw [z, h2] at e; cases e), (fun z => by rw [z, h3] at e; cases e)⟩
theorem Dk.upd {H : Hp} {d p q x : Addr} {o : HO} (h : Dk H d p q) (n : x ≠ d ∧ x ≠ p ∧ x ≠ q) : Dk (L2.upd H x o) d p q := by
  obtain ⟨bs, cs, m, h1, h2, h3, h4⟩ := h
  exact ⟨bs, cs, m, by rw [upd_ne n.1.symm]; exact h1, by rw [upd_ne n.2.1.symm]; exact h2, by rw [upd_ne n.2.2.symm]; exact h3, h4⟩
/-- a list that is being filled while the deck is drawn from -/
def Cd (K : PySem.W.Frag) (H : Hp) (d p q : Addr) (Pr : PyData → Prop) (Dl : Addr) (i : Nat) (H' : Hp) : Prop := H Dl = none ∧ Kp [d, p] H H' ∧ Dk H' d p q ∧ ∃ acc ds, H' Dl = some (.lst acc) ∧ ImAll K H' acc ds ∧ ds.length = i ∧ ∀ e ∈ ds, Pr e
theorem cd_start {H : Hp} {d p q Dl : Addr} {Pr : PyData → Prop} (hD : Dk H d p q) (h : H Dl = none) : Cd K H d p q Pr Dl 0 (upd H Dl (.lst [])) := ⟨h, .new h, hD.upd (hD.ne h), [], [], upd_same, .nil, rfl, by simp⟩
theorem cd_turn {H H' : Hp} {d p q Dl : Addr} {Pr : PyData → Prop} {i : Nat} {te : TE} {σ2 : L2.St} (hD : Dk H d p q) (c : Cd K H d p q Pr Dl i H') (hi : i < 50000) (hs : ∀ Q : VK, (∀ v e H2, Pr e → Im K H2 v e → Kp [d, p] H' H2 → Dk H2 d p q → Q v H2) → te σ2 H' Q) :
    tYes σ2 H' fun b H3 => if b = true then te σ2 H3 fun y H4 => ∃ acc, H4 Dl = some (.lst acc) ∧ acc.length < sizeLine ∧ Cd K H d p q Pr Dl (i + 1) (upd H4 Dl (.lst (acc ++ [y]))) else Cd K H d p q Pr Dl (i + 1) H3 := by
  obtain ⟨c1, c2, c3, acc, ds, c4, c5, c6, c7⟩ := c
  have hne := hD.ne c1
  show te σ2 H' fun y H4 => ∃ acc, H4 Dl = some (.lst acc) ∧ acc.length < sizeLine ∧ Cd K H d p q Pr Dl (i + 1) (upd H4 Dl (.lst (acc ++ [y])))
  refine hs _ fun y e H4 he hy k4 hD4 => ?_
  have h4 : H4 Dl = some (.lst acc) := k4.keep Dl _ c4 (by simp [hne.1, hne.2.1])
  have kk : Kp [Dl] H4 (upd H4 Dl (.lst (acc ++ [y]))) := .wl h4 (by simp)
  refine ⟨acc, h4, Evl.sz_lt (by have := c5.len; omega), c1, (c2.trans k4).wn c1, hD4.upd hne, acc ++ [y], ds ++ [e], upd_same, ((c5.kp k4).kp kk).app (.cons (hy.kp kk) .nil), by simp [c6], fun x hx => ?_⟩
  rcases List.mem_append.mp hx with hx | hx
  · exact c7 x hx
  · obtain rfl := List.mem_singleton.mp hx
    exact he
/-- [.. for k in range(n)] while the deck is drawn from -/
theorem cdR {σ : L2.St} {H : Hp} {d p q : Addr} {ta : TA} {te : TE} {j n : Nat} {vs : List Nat} {Q : VK} (Pr : PyData → Prop) (hD : Dk H d p q) (h : DA K ta σ H [.int (n : Int)]) (hn : n ≤ 40000) (hw : ∀ x, wipe ((wipe σ vs).set j (some x)) vs = wipe σ vs)
    (hs : ∀ (x : V) H', Kp [d, p] H H' → Dk H' d p q → ∀ Q : VK, (∀ v e H2, Pr e → Im K H2 v e → Kp [d, p] H' H2 → Dk H2 d p q → Q v H2) → te ((wipe σ vs).set j (some x)) H' Q)
    (k : ∀ r H' xs ds, Kp [d, p] H H' → Dk H' d p q → H r = none → H' r = some (.lst xs) → ImAll K H' xs ds → ds.length = n → (∀ e ∈ ds, Pr e) → Q (.ref r) H') : tLc (iRng1 ta) (gName j) tYes te vs σ H Q := h H .refl _ fun us H1 e1 hu => by
  cases hu with
  | cons h1 hr =>
    cases hr
    have := h1.intI
    subst this
    have hD1 := hD.kp e1
    refine ⟨(n : Int), rfl, by omega, by omega, fun Dl hDl => ?_⟩
    refine lc_range (lo := 0) (n := (n : Int).toNat) (Cd K H1 d p q Pr Dl) (cd_start hD1 hDl) (fun i H' hi c => ⟨hw _, cd_turn hD1 c (by omega) (hs _ H' (e1.up.trans c.2.1) c.2.2.1)⟩) (fun H' c => ?_)
    obtain ⟨c1, c2, c3, acc, ds, c4, c5, c6, c7⟩ := c
    exact k Dl H' acc ds (e1.up.trans c2) c3 (e1.free c1) c4 c5 (by omega) c7
/-- [.. for x in t] while the deck is drawn from -/
theorem cdT {σ : L2.St} {H : Hp} {d p q : Addr} {tl : TE} {te : TE} {j : Nat} {vs : List Nat} {Q : VK} {es : List PyData} (Pr : PyData → Prop) (hD : Dk H d p q) (h : DE K tl σ H (.tuple es)) (hn : es.length ≤ 40000) (hw : ∀ x, wipe ((wipe σ vs).set j (some x)) vs = wipe σ vs)
    (hs : ∀ (x : V) y H', y ∈ es → Im K H' x y → Kp [d, p] H H' → Dk H' d p q → ∀ Q : VK, (∀ v e H2, Pr e → Im K H2 v e → Kp [d, p] H' H2 → Dk H2 d p q → Q v H2) → te ((wipe σ vs).set j (some x)) H' Q)
    (k : ∀ r H' xs ds, Kp [d, p] H H' → Dk H' d p q → H r = none → H' r = some (.lst xs) → ImAll K H' xs ds → ds.length = es.length → (∀ e ∈ ds, Pr e) → Q (.ref r) H') : tLc (iTup K tl) (gName j) tYes te vs σ H Q := h H .refl _ fun w H1 e1 hw1 => by
  obtain ⟨a, xs, rfl, hx, hxs⟩ := hw1.tupI
  have hlen := hxs.len
  have hD1 := hD.kp e1
  refine ⟨a, rfl, ⟨xs, hx⟩, fun Dl hDl => ?_⟩
  refine lc_tup (xs := xs) (Cd K H1 d p q Pr Dl) (cd_start hD1 hDl) (fun i H' _ c => c.2.1.sqT hx) (fun i x H' hi c => ⟨hw x, ?_⟩) (fun H' c => ?_)
  · obtain ⟨y, hy, hxy⟩ := hxs.getV hi
    have hil := (List.getElem?_eq_some_iff.mp hi).1
    exact cd_turn hD1 c (by omega) (hs x y H' (List.mem_of_getElem? hy) (hxy.kp c.2.1) (e1.up.trans c.2.1) c.2.2.1)
  · obtain ⟨c1, c2, c3, acc, ds, c4, c5, c6, c7⟩ := c
    exact k Dl H' acc ds (e1.up.trans c2) c3 (e1.free c1) c4 c5 (by omega) c7
theorem opC {σ : L2.St} {H : Hp} {te : TE} {u : V} {r : R2} {Q : VK} (h : te σ H (fun y H1 => r u y H1 Q)) : tOp r (tC u) te σ H Q := h
/-- list(t), t a tuple -/
theorem dlistOf {σ : L2.St} {H : Hp} {te : TE} {ds : List PyData} (h : DE K te σ H (.tuple ds)) : DL K (tCB (fun xs H Q => ∃ p ys, xs = [.ref p] ∧ (SqL K H p ys ∨ SqT K H p ys) ∧ ∀ l, H l = none → Q (.ref l) (L2.upd H l (.lst ys))) (tCons te tNil)) σ H ds := fun H1 k Q q =>
  h H1 k _ fun v H2 k2 hv => by
    obtain ⟨a, xs, rfl, hx, hxs⟩ := hv.tupI
    exact ⟨a, xs, rfl, .inr hx, fun l nl => q l _ xs (k2.trans (.new nl)) (k2.free nl) upd_same (hxs.kp (l := []) (.new nl))⟩
theorem listC {σ : L2.St} {H : Hp} {te : TE} {tr : TA} {ds : List PyData} {Q : List V → Hp → Prop} (h : DL K te σ H ds) (k : ∀ p H1 xs, Kp [] H H1 → H p = none → H1 p = some (.lst xs) → ImAll K H1 xs ds → tr σ H1 (fun vs H2 => Q (.ref p :: vs) H2)) : tCons te tr σ H Q := h H .refl _ k
/-- tuple(e) as what is returned -/
theorem unTup {σ : L2.St} {H : Hp} {te : TE} {D : Ends} (h : te σ H (fun x H1 => ∃ p ys, [x] = [V.ref p] ∧ ((SqL K H1 p ys ∧ ∀ l, H1 l = none → D.rt (.ref l) (L2.upd H1 l (.tup ys))) ∨ (SqT K H1 p ys ∧ D.rt (.ref p) H1)))) : tRet (tCB (fun xs H Q => ∃ p ys, xs = [.ref p] ∧ ((SqL K H p ys ∧ ∀ l, H l = none → Q (.ref l) (L2.upd H l (.tup ys))) ∨ (SqT K H p ys ∧ Q (.ref p) H))) (tCons te tNil)) D σ H := h
/-- data that are whole numbers -/
theorem ints_of {Pr : Int → Prop} : ∀ {ds : List PyData}, (∀ e ∈ ds, ∃ i, e = .int i ∧ Pr i) → ∃ l : List Int, ds = l.map .int ∧ ∀ s ∈ l, Pr s
  | [], _ => ⟨[], rfl, by simp⟩
  | e :: r, h => by
    obtain ⟨i, rfl, hi⟩ := h e (by simp)
    obtain ⟨l, rfl, hl⟩ := ints_of (ds := r) fun x hx => h x (by simp [hx])
    exact ⟨i :: l, rfl, fun s hs => by
      rcases List.mem_cons.mp hs with rfl | hs
      · exact hi
      · exact hl s hs⟩

abbrev nl_law_sides : List Str := ["_law_deck_here", "_law_axes", "_law_most", "_law_axis"]
theorem sc_law_sides : FnScope nl_law_sides ["_law_deck_here", "_law_axes", "_law_most"] (defScope s_law_sides) := ⟨rfl, rfl, rfl, by decide +kernel, rfl, by decide +kernel, by decide +kernel⟩
def sp_law_sides (K : PySem.W.Frag) : Sp := fun vs H Q _ => ∃ (d p q : Addr) (n : Nat) (m : Int), vs = [.ref d, .int (n : Int), .int m] ∧ Dk H d p q ∧ n ≤ 4 ∧ 0 < m ∧ m ≤ 12 ∧ ∀ (v : V) (l : List Int) H', l.length = n → (∀ s ∈ l, 0 < s ∧ s ≤ m) → Kp [d, p] H H' → Dk H' d p q → Im K H' v (tI l) → Q v H'
theorem ok_law_sides (T : Txt K mg) : FnOk P w K mg base CX0 2 (He.ga K "_law_sides") (fdA K (He.ga K "_law_sides")) ["_law_deck_here", "_law_axes", "_law_most"] (sp_law_sides K) := by
  refine T.f_law_sides.ok sc_law_sides (fun vs H Q E h => ?_) (fun cdv A outer s H vs Q E hr h => ?_)
  · obtain ⟨d, p, q, n, m, rfl, hD, hn, hm, hm2, k⟩ := h
    rfl
  · have nd := sc_law_sides.nd
    have hu := hr.units
    obtain ⟨d, p, q, n, m, rfl, hD, hn, hm, hm2, k⟩ := h
    refine ⟨_, PSs.nox (pss_one (ps_ret (pe_callTy (clTuple (K := K) rfl) (by rfl) T.n_tuple (by decide +kernel) (pa_cons (pe_lc (own := [("_law_axis", 3)]) rfl nd (pi_range1 (by rfl) T.n_range (pa_cons (pv 1) pa_nil)) (blkOk_by (N := nl_law_sides) (sc := defScope s_law_sides) (by decide +kernel)) (fun _ _ _ _ _ => (pg_name (i := 3) nd rfl (Or.inl rfl))) (fun _ _ _ _ _ => pts_nil) (fun _ _ _ _ _ => (pe_op op_add pe_int (pe_call (ok_law_draw T) (hr.mono (by decide)) (by rfl) T.g_law_draw (T.f_law_draw.kp) (T.b_law_draw) .nil pass0 (pa_cons (pv 0) (pa_cons (pv 2) pa_nil)))))) pa_nil)))), ?_⟩
    refine unTup (K := K) ?_
    refine cdR (K := K) (fun e => ∃ i, e = .int i ∧ 0 < i ∧ i ≤ m) hD (n := n) (dacons (dv rfl (.int _)) danil) (by omega) (fun _ => rfl) (fun x H1 k1 hD1 Q1 q1 => ?_) (fun r H1 xs ds k1 hD1 hr hr1 hx hl hp => ?_)
    · refine opC (drw (K := K) rfl hD1 hm (by omega) (dv rfl (.int m)) fun r H2 r0 r1 k2 hD2 => ?_)
      exact ⟨1, r, rfl, rfl, q1 _ (.int (1 + r)) H2 ⟨_, rfl, by omega, by omega⟩ (.int _) k2 hD2⟩
    · obtain ⟨l, rfl, hlp⟩ := ints_of hp
      rw [List.length_map] at hl
      refine ⟨r, xs, rfl, .inl ⟨.of hr1, fun t nt => ?_⟩⟩
      have kt : Kp [] H1 (upd H1 t (.tup xs)) := .new nt
      exact k _ l _ hl hlp (k1.trans kt.up) (hD1.kp kt) (.tup (.of upd_same) (hx.kp kt))

abbrev nl_law_one : List Str := ["_law_deck_here", "_law_items"]
theorem sc_law_one : FnScope nl_law_one ["_law_deck_here", "_law_items"] (defScope s_law_one) := ⟨rfl, rfl, rfl, by decide +kernel, rfl, by decide +kernel, by decide +kernel⟩
def sp_law_one (K : PySem.W.Frag) : Sp := fun vs H Q _ => ∃ (d p q r : Addr) (xs : List V) (ds : List PyData), vs = [.ref d, .ref r] ∧ Dk H d p q ∧ H r = some (.lst xs) ∧ r ≠ d ∧ r ≠ p ∧ ImAll K H xs ds ∧ 0 < ds.length ∧ ds.length ≤ 100 ∧ ∀ (v : V) (e : PyData) H', e ∈ ds → Kp [d, p] H H' → Dk H' d p q → Im K H' v e → Q v H'
theorem ok_law_one (T : Txt K mg) : FnOk P w K mg base CX0 2 (He.ga K "_law_one") (fdA K (He.ga K "_law_one")) ["_law_deck_here", "_law_items"] (sp_law_one K) := by
  refine T.f_law_one.ok sc_law_one (fun vs H Q E h => ?_) (fun cdv A outer s H vs Q E hr h => ?_)
  · obtain ⟨d, p, q, r, xs, ds, rfl, hD, hrr, n1, n2, hx, h0, h1, k⟩ := h
    rfl
  · have nd := sc_law_one.nd
    have hu := hr.units
    obtain ⟨d, p, q, r, xs, ds, rfl, hD, hrr, n1, n2, hx, h0, h1, k⟩ := h
    refine ⟨_, PSs.nox (pss_one (ps_ret (pe_ix (ixL (K := K) rfl) (pv 1) (pe_call (ok_law_draw T) (hr.mono (by decide)) (by rfl) T.g_law_draw (T.f_law_draw.kp) (T.b_law_draw) .nil pass0 (pa_cons (pv 0) (pa_cons (pe_callB (clLen (K := K) rfl) (by rfl) T.n_len (by decide +kernel) (pa_cons (pv 1) pa_nil)) pa_nil))) (fun _ _ => rfl)))), ?_⟩
    have hl := hx.len
    refine ⟨_, rfl, drw (K := K) rfl hD (m := (ds.length : Int)) (by omega) (by omega) (dlenV rfl (SqL.of hrr) hx) fun i H' i0 i1 k1 hD1 => ?_⟩
    have hr' : H' r = some (.lst xs) := k1.keep r _ hrr (by simp [n1, n2])
    obtain ⟨n, rfl⟩ := Int.eq_ofNat_of_zero_le i0
    have hn : n < ds.length := by omega
    obtain ⟨v, hv, iv⟩ := (hx.kp k1).get (List.getElem?_eq_getElem hn)
    exact ⟨r, xs, n, v, rfl, rfl, SqL.of hr', atI_nat hv, k v _ H' (List.getElem_mem hn) k1 hD1 iv⟩


/-- x = _law_one(deck, e) -/
theorem qone {σ : L2.St} {H : Hp} {d p q : Addr} {i j : Nat} {te : TE} {tz : TS} {D : Ends} {E : XK} {ds : List PyData} (hv : σ[i]? = some (some (.ref d))) (hD : Dk H d p q) (h : DL K te σ H ds) (h0 : 0 < ds.length) (h1 : ds.length ≤ 100)
    (k : ∀ v e H2, e ∈ ds → Kp [d, p] H H2 → Dk H2 d p q → Im K H2 v e → tz D (σ.set j (some v)) H2) : tSeq (tAsg (tCall (sp_law_one K) [] E (tCons (tVar i) (tCons te tNil))) (gName j)) tz D σ H :=
  ⟨_, hv, h H .refl _ fun r H1 xs k1 nr hr1 hx => by
    have hne := hD.ne nr
    exact ⟨d, p, q, r, xs, ds, rfl, hD.kp k1, hr1, hne.1, hne.2.1, hx, h0, h1, fun v e H2 he k2 hD2 hv => k v e H2 he (k1.up.trans k2) hD2 hv⟩⟩
theorem rone {σ : L2.St} {H : Hp} {d p q : Addr} {i : Nat} {te : TE} {Q : VK} {E : XK} {ds : List PyData} (hv : σ[i]? = some (some (.ref d))) (hD : Dk H d p q) (h : DL K te σ H ds) (h0 : 0 < ds.length) (h1 : ds.length ≤ 100)
    (k : ∀ v e H2, e ∈ ds → Kp [d, p] H H2 → Dk H2 d p q → Im K H2 v e → Q v H2) : tCall (sp_law_one K) [] E (tCons (tVar i) (tCons te tNil)) σ H Q :=
  ⟨_, hv, h H .refl _ fun r H1 xs k1 nr hr1 hx => by
    have hne := hD.ne nr
    exact ⟨d, p, q, r, xs, ds, rfl, hD.kp k1, hr1, hne.1, hne.2.1, hx, h0, h1, fun v e H2 he k2 hD2 hv => k v e H2 he (k1.up.trans k2) hD2 hv⟩⟩

abbrev nl_law_plain_box : List Str := ["_law_deck_here", "_law_pair_here", "_law_many", "_law_brick", "_law_side"]
theorem sc_law_plain_box : FnScope nl_law_plain_box ["_law_deck_here", "_law_pair_here", "_law_many"] (defScope s_law_plain_box) := ⟨rfl, rfl, rfl, by decide +kernel, rfl, by decide +kernel, by decide +kernel⟩
def sp_law_plain (K : PySem.W.Frag) : Sp := fun vs H Q _ => ∃ (d p q : Addr) (vp : V) (a b : List Int) (m : Int), vs = [.ref d, vp, .int m] ∧ Dk H d p q ∧ Im K H vp (pairD (a, b)) ∧ a.length = b.length ∧ a.length ≤ 4 ∧ (∀ s ∈ a, 0 < s ∧ s ≤ 6) ∧ (∀ s ∈ b, 0 < s ∧ s ≤ 6) ∧ 0 < m ∧ m ≤ 4 ∧ ∀ (v : V) (l : List Int) H', l.length = a.length → (∀ s ∈ l, 0 < s ∧ s ≤ 24) → Kp [d, p] H H' → Dk H' d p q → Im K H' v (tI l) → Q v H'
theorem ok_law_plain_box (T : Txt K mg) : FnOk P w K mg base CX0 3 (He.ga K "_law_plain_box") (fdA K (He.ga K "_law_plain_box")) ["_law_deck_here", "_law_pair_here", "_law_many"] (sp_law_plain K) := by
  refine T.f_law_plain_box.ok sc_law_plain_box (fun vs H Q E h => ?_) (fun cdv A outer s H vs Q E hr h => ?_)
  · obtain ⟨d, p, q, vp, a, b, m, rfl, hD, ip, hab, hl, pa, pb, hm, hm2, k⟩ := h
    rfl
  · have nd := sc_law_plain_box.nd
    have hu := hr.units
    obtain ⟨d, p, q, vp, a, b, m, rfl, hD, ip, hab, hl, pa, pb, hm, hm2, k⟩ := h
    refine ⟨_, PSs.nox (pss_cons (ps_set (i := 3) nd rfl (Or.inl rfl) (pe_call (ok_law_one T) (hr.mono (by decide)) (by rfl) T.g_law_one (T.f_law_one.kp) (T.b_law_one) .nil pass0 (pa_cons (pv 0) (pa_cons (pe_callTy (clList (K := K) rfl) (by rfl) T.n_list (by decide +kernel) (pa_cons (pv 1) pa_nil)) pa_nil))))
      (pss_one (ps_ret (pe_callTy (clTuple (K := K) rfl) (by rfl) T.n_tuple (by decide +kernel) (pa_cons (pe_lc (own := [("_law_side", 4)]) rfl nd (piT (K := K) rfl (pv 3)) (blkOk_by (N := nl_law_plain_box) (sc := defScope s_law_plain_box) (by decide +kernel)) (fun _ _ _ _ _ => (pg_name (i := 4) nd rfl (Or.inl rfl))) (fun _ _ _ _ _ => pts_nil) (fun _ _ _ _ _ => (pe_op op_mul (pv 4) (pe_op op_add pe_int (pe_call (ok_law_draw T) (hr.mono (by decide)) (by rfl) T.g_law_draw (T.f_law_draw.kp) (T.b_law_draw) .nil pass0 (pa_cons (pv 0) (pa_cons (pv 2) pa_nil))))))) pa_nil))))), ?_⟩
    refine qone (K := K) (ds := [tI a, tI b]) rfl hD (dlistOf (dv rfl ip)) (by simp) (by simp) fun v e H2 he k2 hD2 hv => ?_
    obtain ⟨c, rfl, hcl, hcp⟩ : ∃ c, e = tI c ∧ c.length = a.length ∧ ∀ s ∈ c, 0 < s ∧ s ≤ 6 := by
      have hm : e = tI a ∨ e = tI b := by simpa using he
      rcases hm with rfl | rfl
      · exact ⟨a, rfl, rfl, pa⟩
      · exact ⟨b, rfl, hab.symm, pb⟩
    refine unTup (K := K) ?_
    refine cdT (K := K) (es := c.map .int) (fun e => ∃ i, e = .int i ∧ 0 < i ∧ i ≤ 24) hD2 (dv rfl hv) (by simp; omega) (fun _ => rfl) (fun x y H3 hy hxy k3 hD3 Q1 q1 => ?_) (fun r H3 xs ds k3 hD3 hr3 hr4 hx3 hl3 hp3 => ?_)
    · obtain ⟨s1, hs1, rfl⟩ := List.mem_map.mp hy
      have hb := hcp s1 hs1
      obtain rfl := hxy.intI
      refine ⟨_, rfl, opC (drw (K := K) rfl hD3 hm (by omega) (dv rfl (.int m)) fun r H4 r0 r1 k4 hD4 => ?_)⟩
      have h4 : s1 * (1 + r) ≤ 6 * 4 := Int.mul_le_mul hb.2 (by omega) (by omega) (by omega)
      have h5 : 0 < s1 * (1 + r) := Int.mul_pos hb.1 (by omega)
      exact ⟨1, r, rfl, rfl, s1, 1 + r, rfl, rfl, .inl ⟨by omega, by omega⟩, q1 _ (.int (s1 * (1 + r))) H4 ⟨_, rfl, h5, by omega⟩ (.int _) k4 hD4⟩
    · obtain ⟨l, rfl, hlp⟩ := ints_of hp3
      rw [List.length_map, List.length_map] at hl3
      refine ⟨r, xs, rfl, .inl ⟨.of hr4, fun t nt => ?_⟩⟩
      have kt : Kp [] H3 (upd H3 t (.tup xs)) := .new nt
      exact k _ l _ (by omega) hlp (k2.trans (k3.trans kt.up)) (hD3.kp kt) (.tup (.of upd_same) (hx3.kp kt))

end
end TB
namespace TB
open PySem PySem.Spec PyProof.Rows L2
section
variable {P : Program} {w : World} {K : PySem.W.Frag} {mg : Str → Option Value} {base : Heap}

theorem dK {σ : L2.St} {H : Hp} {v : V} {d : PyData} (h : Im K H v d) : DE K (tC v) σ H d := fun H1 k Q q => q v H1 .refl (h.kp k)
theorem catIm {σ : L2.St} {H : Hp} {v w : V} {ds es : List PyData} {Q : VK} (h1 : Im K H v (.tuple ds)) (h2 : Im K H w (.tuple es)) (hl : ds.length + es.length ≤ 100000) (q : ∀ u H', Kp [] H H' → Im K H' u (.tuple (ds ++ es)) → Q u H') : rCatA K v w H Q := (dcat (σ := σ) (dK h1) (dK h2) hl) H .refl Q q
/-- x = _law_draw(deck, e) -/
theorem qdraw {σ : L2.St} {H : Hp} {d p q : Addr} {i j : Nat} {m : Int} {te : TE} {tz : TS} {D : Ends} {E : XK} (hv : σ[i]? = some (some (.ref d))) (hD : Dk H d p q) (h0 : 0 < m) (h1 : m ≤ 1000) (h : DE K te σ H (.int m)) (k : ∀ (r : Int) H2, 0 ≤ r → r < m → Kp [d, p] H H2 → Dk H2 d p q → tz D (σ.set j (some (.int r))) H2) :
    tSeq (tAsg (tCall (sp_law_draw K) [] E (tCons (tVar i) (tCons te tNil))) (gName j)) tz D σ H := drw hv hD h0 h1 h k
/-- if _law_draw(deck, m) == 0 -/
theorem qdrawIf {σ : L2.St} {H : Hp} {d p q : Addr} {i : Nat} {m : Int} {te : TE} {tu tw tz : TS} {D : Ends} {E : XK} (hv : σ[i]? = some (some (.ref d))) (hD : Dk H d p q) (h0 : 0 < m) (h1 : m ≤ 1000) (h : DE K te σ H (.int m)) (ku : ∀ H2, Kp [d, p] H H2 → Dk H2 d p q → tu { D with nx := tz D } σ H2) (kw : ∀ H2, Kp [d, p] H H2 → Dk H2 d p q → tw { D with nx := tz D } σ H2) :
    tSeq (tIfS (tTest (tOp rEq (tCall (sp_law_draw K) [] E (tCons (tVar i) (tCons te tNil))) (tC (.int 0)))) tu tw) tz D σ H :=
  drw hv hD h0 h1 h fun r H2 r0 r1 k2 hD2 => ⟨rfl, _, rfl, by
    by_cases e : V.int r = V.int 0
    · rw [decide_eq_true e]; show if true = true then _ else _; rw [if_pos rfl]; exact ku H2 k2 hD2
    · rw [decide_eq_false e]; show if false = true then _ else _; rw [if_neg Bool.false_ne_true]; exact kw H2 k2 hD2⟩
/-- a call of _law_sides -/
theorem cSides {σ : L2.St} {H : Hp} {d p q : Addr} {i i1 i2 n : Nat} {m : Int} {Q : VK} {E : XK} (hv : σ[i]? = some (some (.ref d))) (h1 : σ[i1]? = some (some (.int (n : Int)))) (h2 : σ[i2]? = some (some (.int m))) (hD : Dk H d p q) (hn : n ≤ 4) (h0 : 0 < m) (h12 : m ≤ 12)
    (k : ∀ (v : V) (l : List Int) H', l.length = n → (∀ s ∈ l, 0 < s ∧ s ≤ m) → Kp [d, p] H H' → Dk H' d p q → Im K H' v (tI l) → Q v H') : tCall (sp_law_sides K) [] E (tCons (tVar i) (tCons (tVar i1) (tCons (tVar i2) tNil))) σ H Q := ⟨_, hv, _, h1, _, h2, d, p, q, n, m, rfl, hD, hn, h0, h12, k⟩

abbrev nl_law_pair : List Str := ["_law_deck_here", "_law_axes", "_law_most", "_law_one_here", "_law_other", "_law_at"]
theorem sc_law_pair : FnScope nl_law_pair ["_law_deck_here", "_law_axes", "_law_most"] (defScope s_law_pair) := ⟨rfl, rfl, rfl, by decide +kernel, rfl, by decide +kernel, by decide +kernel⟩
def sp_law_pair (K : PySem.W.Frag) : Sp := fun vs H Q _ => ∃ (d p q : Addr) (n : Nat), vs = [.ref d, .int (n : Int), .int 6] ∧ Dk H d p q ∧ 0 < n ∧ n ≤ 4 ∧ ∀ (v : V) (a b : List Int) H', a.length = n → b.length = n → (∀ s ∈ a, 0 < s ∧ s ≤ 6) → (∀ s ∈ b, 0 < s ∧ s ≤ 6) → Kp [d, p] H H' → Dk H' d p q → Im K H' v (pairD (a, b)) → Q v H'
theorem ok_law_pair (T : Txt K mg) : FnOk P w K mg base CX0 3 (He.ga K "_law_pair") (fdA K (He.ga K "_law_pair")) ["_law_deck_here", "_law_axes", "_law_most"] (sp_law_pair K) := by
  refine T.f_law_pair.ok sc_law_pair (fun vs H Q E h => ?_) (fun cdv A outer s H vs Q E hr h => ?_)
  · obtain ⟨d, p, q, n, rfl, hD, hn0, hn, k⟩ := h
    rfl
  · have nd := sc_law_pair.nd
    have hu := hr.units
    obtain ⟨d, p, q, n, rfl, hD, hn0, hn, k⟩ := h
    refine ⟨_, PSs.nox (pss_cons (ps_par (i := 3) (j := 4) rfl nd rfl rfl (by decide) rfl rfl (pa_cons (pe_call (ok_law_sides T) (hr.mono (by decide)) (by rfl) T.g_law_sides (T.f_law_sides.kp) (T.b_law_sides) .nil pass0 (pa_cons (pv 0) (pa_cons (pv 1) (pa_cons (pv 2) pa_nil)))) (pa_cons (pe_call (ok_law_sides T) (hr.mono (by decide)) (by rfl) T.g_law_sides (T.f_law_sides.kp) (T.b_law_sides) .nil pass0 (pa_cons (pv 0) (pa_cons (pv 1) (pa_cons (pv 2) pa_nil)))) pa_nil)) (by rfl))
      (pss_cons (ps_if (pt_cmpR op_eq (pe_call (ok_law_draw T) (hr.mono (by decide)) (by rfl) T.g_law_draw (T.f_law_draw.kp) (T.b_law_draw) .nil pass0 (pa_cons (pv 0) (pa_cons pe_int pa_nil))) pe_int (nomark _)) (pss_cons (ps_set (i := 5) nd rfl (Or.inl rfl) (pe_call (ok_law_draw T) (hr.mono (by decide)) (by rfl) T.g_law_draw (T.f_law_draw.kp) (T.b_law_draw) .nil pass0 (pa_cons (pv 0) (pa_cons (pv 1) pa_nil))))
      (pss_one (ps_set (i := 4) nd rfl (Or.inl rfl) (pe_op (opCatA (K := K) rfl) (pe_op (opCatA (K := K) rfl) (pe_slice (slA (K := K) rfl) (pv 3) po_none (po_some (pv 5))) (pe_tup (pa_cons (pe_op op_add pe_int (pe_call (ok_law_draw T) (hr.mono (by decide)) (by rfl) T.g_law_draw (T.f_law_draw.kp) (T.b_law_draw) .nil pass0 (pa_cons (pv 0) (pa_cons (pv 2) pa_nil)))) pa_nil))) (pe_slice (slA (K := K) rfl) (pv 3) (po_some (pe_op op_add (pv 5) pe_int)) po_none))))) pss_nil)
      (pss_one (ps_ret (pe_tup (pa_cons (pv 3) (pa_cons (pv 4) pa_nil))))))), ?_⟩
    show tCall (sp_law_sides K) [] E0 _ _ H _
    refine cSides (K := K) rfl rfl rfl hD hn (by decide) (by decide) fun va a H1 la pa k1 hD1 ia => ?_
    show tCall (sp_law_sides K) [] E0 _ _ H1 _
    refine cSides (K := K) rfl rfl rfl hD1 hn (by decide) (by decide) fun vb b H2 lb pb k2 hD2 ib => ?_
    refine ⟨_, _, rfl, ?_⟩
    refine qdrawIf (K := K) rfl hD2 (by decide) (by decide) dint (fun H3 k3 hD3 => ?_) (fun H3 k3 hD3 => ?_)
    · refine qdraw (K := K) rfl hD3 (by omega) (by omega) (dv rfl (.int (n : Int))) fun r H4 r0 r1 k4 hD4 => ?_
      obtain ⟨ax, rfl⟩ := Int.eq_ofNat_of_zero_le r0
      have hax : ax < a.length := by omega
      have ia4 := ((ia.kp k2).kp k3).kp k4
      refine (dslT (K := K) (ds := a.map .int) (dv rfl ia4) donone (dosome (K := K) (dv rfl (.int _)))) H4 .refl _ fun v1 H5 k5 i1 => ?_
      refine opC (drw (K := K) rfl (hD4.kp k5) (m := 6) (by decide) (by decide) (dv rfl (.int 6)) fun r H6 r2 r3 k6 hD6 => ?_)
      refine ⟨1, r, rfl, rfl, Evl.sz_of (by simp), fun t nt => ?_⟩
      have kt : Kp [] H6 (upd H6 t (.tup [.int (1 + r)])) := .new nt
      have it : Im K (upd H6 t (.tup [.int (1 + r)])) (.ref t) (.tuple [.int (1 + r)]) := .tup (.of upd_same) (.cons (.int _) .nil)
      refine catIm (σ := []) (((i1.kp k6).kp kt)) it ?_ fun v2 H7 k7 i2 => ?_
      · have := cutLen (a.map PyData.int) none (some (ax : Int)); simp at this ⊢; omega
      have ia7 := ((((ia4.kp k5).kp k6).kp kt).kp k7)
      refine (dslT (K := K) (ds := a.map .int) (dv rfl ia7) (dosome (K := K) (dI0 (dv rfl (.int _)) dint)) donone) H7 .refl _ fun v3 H8 k8 i3 => ?_
      refine catIm (σ := []) (i2.kp k8) i3 ?_ fun v4 H9 k9 i4 => ?_
      · have h1 := cutLen (a.map PyData.int) none (some (ax : Int))
        have h2 := cutLen (a.map PyData.int) (some ((ax : Int) + 1)) none
        simp at h1 h2 ⊢; omega
      rw [setI a ax (1 + r) hax] at i4
      have kz := kt.trans (k7.trans (k8.trans k9))
      have k09 : Kp [d, p] H H9 := k1.trans (k2.trans (k3.trans (k4.trans (k5.up.trans (k6.trans kz.up)))))
      refine sret (K := K) (d := pairD (a, a.set ax (1 + r))) (dtup (dacons (dv rfl (((ia7.kp k8).kp k9))) (dacons (dv rfl i4) danil))) fun v Ha ka hv => ?_
      refine k v a (a.set ax (1 + r)) Ha la (by simpa using la) pa (fun s hs => ?_) (k09.trans ka.up) (hD6.kp (kz.trans ka)) hv
      rcases List.mem_or_eq_of_mem_set hs with h | h
      · exact pa s h
      · omega
    · refine sret (K := K) (d := pairD (a, b)) (dtup (dacons (dv rfl ((ia.kp k2).kp k3)) (dacons (dv rfl (ib.kp k3)) danil))) fun v Ha ka hv => ?_
      exact k v a b Ha la lb pa pb (k1.trans (k2.trans (k3.trans ka.up))) (hD3.kp ka) hv

end
end TB
namespace TB
open PySem PySem.Spec PyProof.Rows L2
section
variable {P : Program} {w : World} {K : PySem.W.Frag} {mg : Str → Option Value} {base : Heap}

theorem qforR {σ : L2.St} {H : Hp} {ta : TA} {j n : Nat} {tu tz : TS} {D : Ends} (h : DA K ta σ H [.int (n : Int)]) (hn : n ≤ 40000) (Pv : Nat → L2.St → Hp → Prop) (h0 : ∀ H1, Kp [] H H1 → Pv 0 σ H1)
    (hs : ∀ i σ' H', i < n → Pv i σ' H' → tu { D with nx := Pv (i + 1), ct := Pv (i + 1), bk := tz D } (σ'.set j (some (.int (i : Int)))) H') (hd : ∀ σ' H', Pv n σ' H' → tz D σ' H') : tSeq (tFor (iRng1 ta) (gName j) tu) tz D σ H := h H .refl _ fun us H1 k1 hu => by
  cases hu with
  | cons h1 hr =>
    cases hr
    have := h1.intI
    subst this
    refine ⟨(n : Int), rfl, by omega, by omega, ?_⟩
    refine for_range (lo := 0) (n := (n : Int).toNat) Pv (h0 H1 k1) (fun i σ' H' hi p => ?_) (fun σ' H' p => hd σ' H' (by simpa using p))
    have e0 : (0 : Int) + (i : Int) = (i : Int) := Int.zero_add _
    show tu _ (σ'.set j (some (.int ((0 : Int) + (i : Int))))) H'
    rw [e0]
    exact hs i σ' H' (by omega) p
theorem dLcm {σ : L2.St} {H : Hp} {ta tb : TE} {a b : Int} {E : XK} {Q : VK} (ha : DE K ta σ H (.int a)) (hb : DE K tb σ H (.int b)) (a0 : 0 < a) (a6 : a ≤ 6) (b0 : 0 < b) (b6 : b ≤ 6) (k : ∀ (c : Int) H', 0 < c → c ≤ 36 → Kp [] H H' → Q (.int c) H') : tCall sp_law_lcm [] E (tCons ta (tCons tb tNil)) σ H Q :=
  (dacons ha (dacons hb danil)) H .refl _ fun vs H1 k1 hv => by
    obtain ⟨v1, v2, rfl, i1, i2⟩ := hv.inv2
    obtain rfl := i1.intI
    obtain rfl := i2.intI
    exact ⟨a, b, rfl, a0, a6, b0, b6, fun c c0 c1 H2 k2 => k c H2 c0 c1 (k1.trans k2)⟩

abbrev nl_law_cut_box : List Str := ["_law_deck_here", "_law_pair_here", "_law_many", "_law_axis", "_law_found", "_law_k"]
theorem sc_law_cut_box : FnScope nl_law_cut_box ["_law_deck_here", "_law_pair_here", "_law_many"] (defScope s_law_cut_box) := ⟨rfl, rfl, rfl, by decide +kernel, rfl, by decide +kernel, by decide +kernel⟩
def sp_law_cut (K : PySem.W.Frag) : Sp := fun vs H Q _ => ∃ (d p q : Addr) (vp : V) (a b : List Int), vs = [.ref d, vp, .int 4] ∧ Dk H d p q ∧ Im K H vp (pairD (a, b)) ∧ a.length = b.length ∧ 0 < a.length ∧ a.length ≤ 4 ∧ (∀ s ∈ a, 0 < s ∧ s ≤ 6) ∧ (∀ s ∈ b, 0 < s ∧ s ≤ 6) ∧ ∀ (v : V) (l : List Int) H', l.length = a.length → (∀ s ∈ l, 0 < s ∧ s ≤ 42) → Kp [d, p] H H' → Dk H' d p q → Im K H' v (tI l) → Q v H'
theorem ok_law_cut_box (T : Txt K mg) : FnOk P w K mg base CX0 3 (He.ga K "_law_cut_box") (fdA K (He.ga K "_law_cut_box")) ["_law_deck_here", "_law_pair_here", "_law_many"] (sp_law_cut K) := by
  refine T.f_law_cut_box.ok sc_law_cut_box (fun vs H Q E h => ?_) (fun cdv A outer s H vs Q E hr h => ?_)
  · obtain ⟨d, p, q, vp, a, b, rfl, hD, ip, hab, hl0, hl, pa, pb, k⟩ := h
    rfl
  · have nd := sc_law_cut_box.nd
    have hu := hr.units
    obtain ⟨d, p, q, vp, a, b, rfl, hD, ip, hab, hl0, hl, pa, pb, k⟩ := h
    refine ⟨_, PSs.nox (pss_cons (ps_par (i := 3) (j := 4) rfl nd rfl rfl (by decide) rfl rfl (pa_cons (pe_call (ok_law_draw T) (hr.mono (by decide)) (by rfl) T.g_law_draw (T.f_law_draw.kp) (T.b_law_draw) .nil pass0 (pa_cons (pv 0) (pa_cons (pe_callB (clLen (K := K) rfl) (by rfl) T.n_len (by decide +kernel) (pa_cons (pe_ix (ixT (K := K) rfl) (pv 1) pe_int (fun _ _ => rfl)) pa_nil)) pa_nil))) (pa_cons (pe_lst pa_nil) pa_nil)) (by rfl))
      (pss_cons (ps_for PassesOwn.never rfl (pi_range1 (by rfl) T.n_range (pa_cons (pe_callB (clLen (K := K) rfl) (by rfl) T.n_len (by decide +kernel) (pa_cons (pe_ix (ixT (K := K) rfl) (pv 1) pe_int (fun _ _ => rfl)) pa_nil)) pa_nil)) (pg_name (i := 5) nd rfl (Or.inl rfl)) (pss_one (ps_expr (pe_bm PySem.F.plainAttrs_list PySem.F.slot_list_append PySem.F.type_list_append mt_append (pv 4) (pa_cons (pe_call (ok_law_lcm T) (hr.mono (by decide)) (by rfl) T.g_law_lcm (T.f_law_lcm.kp) (T.b_law_lcm) .nil pass0 (pa_cons (pe_ix (ixT (K := K) rfl) (pe_ix (ixT (K := K) rfl) (pv 1) pe_int (fun _ _ => rfl)) (pv 5) (fun _ _ => rfl)) (pa_cons (pe_ix (ixT (K := K) rfl) (pe_ix (ixT (K := K) rfl) (pv 1) pe_int (fun _ _ => rfl)) (pv 5) (fun _ _ => rfl)) pa_nil))) pa_nil)))))
      (pss_cons (ps_asg (pe_op op_add (pe_op op_mul (pe_ix (ixT (K := K) rfl) (pe_ix (ixT (K := K) rfl) (pv 1) pe_int (fun _ _ => rfl)) (pv 3) (fun _ _ => rfl)) (pe_call (ok_law_draw T) (hr.mono (by decide)) (by rfl) T.g_law_draw (T.f_law_draw.kp) (T.b_law_draw) .nil pass0 (pa_cons (pv 0) (pa_cons (pv 2) pa_nil)))) (pe_op op_mul (pe_ix (ixT (K := K) rfl) (pe_ix (ixT (K := K) rfl) (pv 1) pe_int (fun _ _ => rfl)) (pv 3) (fun _ _ => rfl)) (pe_op op_add pe_int (pe_call (ok_law_draw T) (hr.mono (by decide)) (by rfl) T.g_law_draw (T.f_law_draw.kp) (T.b_law_draw) .nil pass0 (pa_cons (pv 0) (pa_cons (pv 2) pa_nil)))))) (pg_sub (pv 4) (pv 3) set_list))
      (pss_one (ps_ret (pe_callTy (clTuple (K := K) rfl) (by rfl) T.n_tuple (by decide +kernel) (pa_cons (pv 4) pa_nil))))))), ?_⟩
    refine drw (K := K) rfl hD (m := (a.length : Int)) (by omega) (by omega) (DE.is (dlen (ds := a.map .int) (dix (dv rfl ip) dint at0)) (by simp)) fun ax0 H1 x0 x1 k1 hD1 => ?_
    obtain ⟨ax, rfl⟩ := Int.eq_ofNat_of_zero_le x0
    have hax : ax < a.length := by omega
    refine ⟨Evl.sz_of (by simp), fun f nf => ⟨_, _, rfl, ?_⟩⟩
    have hf0 : H f = none := by
      cases e : H f with
      | none => rfl
      | some o =>
        exfalso
        by_cases hm : f ∈ [d, p]
        · rcases List.mem_cons.mp hm with e1 | e1
          · exact (hD1.ne nf).1 e1
          · exact (hD1.ne nf).2.1 (List.mem_singleton.mp e1)
        · rw [k1.keep f o e hm] at nf; cases nf
    have hne := hD.ne hf0
    have kf : Kp [d, p] H (upd H1 f (.lst [])) := k1.trans (.new nf)
    have hDf : Dk (upd H1 f (.lst [])) d p q := hD1.upd hne
    refine qforR (K := K) (n := a.length) (dacons (DE.is (dlen (ds := a.map .int) (dix (dv rfl (ip.kp kf)) dint at0)) (by simp)) danil) (by omega)
      (fun i σ' H' => (∃ y, σ' = [some (.ref d), some vp, some (.int 4), some (.int (ax : Int)), some (.ref f), y]) ∧ Kp [d, p] H H' ∧ Dk H' d p q ∧ ∃ l : List Int, H' f = some (.lst (l.map V.int)) ∧ l.length = i ∧ ∀ s ∈ l, 0 < s ∧ s ≤ 42)
      (fun H2 k2 => ⟨⟨none, rfl⟩, kf.trans k2.up, hDf.kp k2, [], k2.get upd_same, rfl, by simp⟩) (fun i σ' H' hi ⟨⟨y, e⟩, k2, hD2, l, h2, l2, p2⟩ => ?_) (fun σ' H' ⟨⟨y, e⟩, k2, hD2, l, h2, l2, p2⟩ => ?_)
    · subst e
      have hA : a[i]? = some a[i] := List.getElem?_eq_getElem hi
      have hB : b[i]? = some (b[i]'(by omega)) := List.getElem?_eq_getElem (by omega)
      have hpa := pa _ (List.getElem_mem hi)
      have hpb := pb (b[i]'(by omega)) (List.getElem_mem (by omega))
      refine ⟨_, rfl, .inl ⟨rfl, _, SqL.of h2⟩, ?_⟩
      refine dLcm (K := K) (dix (dix (dv rfl (ip.kp k2)) dint at0) (dv rfl (.int _)) (atMap .int hA)) (dix (dix (dv rfl (ip.kp k2)) dint at1) (dv rfl (.int _)) (atMap .int hB)) hpa.1 hpa.2 hpb.1 hpb.2 fun c H3 c0 c1 k3 => ?_
      refine ⟨f, _, .int c, rfl, rfl, k3.get h2, Evl.sz_lt (by simp; omega), ?_⟩
      refine ⟨⟨_, rfl⟩, (k2.trans k3.up).wn hf0, (hD2.kp k3).upd hne, l ++ [c], ?_, by simp [l2], fun s hs => ?_⟩
      · rw [upd_same, List.map_append]; rfl
      · rcases List.mem_append.mp hs with hs | hs
        · exact p2 s hs
        · obtain rfl := List.mem_singleton.mp hs
          exact ⟨c0, by omega⟩
    · subst e
      have hA : a[ax]? = some a[ax] := List.getElem?_eq_getElem hax
      have hB : b[ax]? = some (b[ax]'(by omega)) := List.getElem?_eq_getElem (by omega)
      have hpa := pa _ (List.getElem_mem hax)
      have hpb := pb (b[ax]'(by omega)) (List.getElem_mem (by omega))
      generalize a[ax] = A at *
      generalize (b[ax]'(by omega)) = B1 at *
      refine (dix (K := K) (dix (dv rfl (ip.kp k2)) dint at0) (dv rfl (.int _)) (atMap .int hA)) H' .refl _ fun v H3 k3 hv => ?_
      obtain rfl := hv.intI
      refine drw (K := K) rfl (hD2.kp k3) (m := 4) (by decide) (by decide) (dv rfl (.int 4)) fun r H4 r0 r1 k4 hD4 => ?_
      refine ⟨A, r, rfl, rfl, .inl ⟨by omega, by omega⟩, ?_⟩
      refine (dix (K := K) (dix (dv rfl (((ip.kp k2).kp k3).kp k4)) dint at1) (dv rfl (.int _)) (atMap .int hB)) H4 .refl _ fun v H5 k5 hv => ?_
      obtain rfl := hv.intI
      refine opC (drw (K := K) rfl (hD4.kp k5) (m := 4) (by decide) (by decide) (dv rfl (.int 4)) fun r' H6 s0 s1 k6 hD6 => ?_)
      refine ⟨1, r', rfl, rfl, B1, 1 + r', rfl, rfl, .inl ⟨by omega, by omega⟩, A * r, B1 * (1 + r'), rfl, rfl, ?_⟩
      have u1 : A * r ≤ 6 * 3 := Int.mul_le_mul hpa.2 (by omega) r0 (by omega)
      have u2 : B1 * (1 + r') ≤ 6 * 4 := Int.mul_le_mul hpb.2 (by omega) (by omega) (by omega)
      have u3 : 0 ≤ A * r := Int.mul_nonneg (by omega) r0
      have u4 : 0 < B1 * (1 + r') := Int.mul_pos hpb.1 (by omega)
      have k26 : Kp [d, p] H' H6 := k3.up.trans (k4.trans (k5.up.trans k6))
      have hf6 : H6 f = some (.lst (l.map V.int)) := k26.keep f _ h2 (by simp [hne.1, hne.2.1])
      refine ⟨_, rfl, _, rfl, f, _, ax, ax, rfl, rfl, hf6, ixN_ofNat _ ax (by simp; omega), ?_⟩
      have e7 : (upd H6 f (.lst ((l.map V.int).set ax (.int (A * r + B1 * (1 + r')))))) f = some (.lst ((l.set ax (A * r + B1 * (1 + r'))).map V.int)) := by rw [upd_same, List.map_set]
      refine ⟨_, rfl, f, _, rfl, .inl ⟨SqL.of e7, fun t nt => ?_⟩⟩
      have kt : Kp [] (upd H6 f (.lst ((l.map V.int).set ax (.int (A * r + B1 * (1 + r')))))) (upd (upd H6 f (.lst ((l.map V.int).set ax (.int (A * r + B1 * (1 + r')))))) t (.tup ((l.set ax (A * r + B1 * (1 + r'))).map V.int))) := .new nt
      refine k _ (l.set ax (A * r + B1 * (1 + r'))) _ (by simp [l2]) (fun s hs => ?_) (((k2.trans k26).wn hf0).trans kt.up) ((hD6.upd hne).kp kt) (.ofTi (.of upd_same))
      rcases List.mem_or_eq_of_mem_set hs with h | h
      · exact p2 s h
      · omega

end
end TB
namespace TB
open PySem PySem.Spec PyProof.Rows L2
section
variable {P : Program} {w : World} {K : PySem.W.Frag} {mg : Str → Option Value} {base : Heap}
abbrev nl_law_says : List Str := ["_law_deck_here", "_law_pair_here"]
theorem sc_law_says : FnScope nl_law_says ["_law_deck_here", "_law_pair_here"] (defScope s_law_says) := ⟨rfl, rfl, rfl, by decide +kernel, rfl, by decide +kernel, by decide +kernel⟩
def sp_law_says (K : PySem.W.Frag) : Sp := fun vs H Q _ => ∃ (d p q : Addr) (vp : V) (a b : List Int), vs = [.ref d, vp] ∧ Dk H d p q ∧ Im K H vp (pairD (a, b)) ∧ a.length = b.length ∧ 0 < a.length ∧ a.length ≤ 4 ∧ (∀ s ∈ a, 0 < s ∧ s ≤ 6) ∧ (∀ s ∈ b, 0 < s ∧ s ≤ 6) ∧ ∀ (v : V) (l : List Int) H', l.length = a.length → (∀ s ∈ l, 0 < s ∧ s ≤ 42) → Kp [d, p] H H' → Dk H' d p q → Im K H' v (tI l) → Q v H'
theorem ok_law_says (T : Txt K mg) : FnOk P w K mg base CX0 4 (He.ga K "_law_says") (fdA K (He.ga K "_law_says")) ["_law_deck_here", "_law_pair_here"] (sp_law_says K) := by
  refine T.f_law_says.ok sc_law_says (fun vs H Q E h => ?_) (fun cdv A outer s H vs Q E hr h => ?_)
  · obtain ⟨d, p, q, vp, a, b, rfl, hD, ip, hab, hl0, hl, pa, pb, k⟩ := h
    rfl
  · have nd := sc_law_says.nd
    have hu := hr.units
    obtain ⟨d, p, q, vp, a, b, rfl, hD, ip, hab, hl0, hl, pa, pb, k⟩ := h
    refine ⟨_, PSs.nox (pss_one (ps_ret (pe_call (ok_law_one T) (hr.mono (by decide)) (by rfl) T.g_law_one (T.f_law_one.kp) (T.b_law_one) .nil pass0 (pa_cons (pv 0) (pa_cons (pe_lst (pa_cons (pe_call (ok_law_cut_box T) (hr.mono (by decide)) (by rfl) T.g_law_cut_box (T.f_law_cut_box.kp) (T.b_law_cut_box) .nil pass0 (pa_cons (pv 0) (pa_cons (pv 1) (pa_cons pe_int pa_nil)))) (pa_cons (pe_call (ok_law_plain_box T) (hr.mono (by decide)) (by rfl) T.g_law_plain_box (T.f_law_plain_box.kp) (T.b_law_plain_box) .nil pass0 (pa_cons (pv 0) (pa_cons (pv 1) (pa_cons pe_int pa_nil)))) (pa_cons (pe_call (ok_law_sides T) (hr.mono (by decide)) (by rfl) T.g_law_sides (T.f_law_sides.kp) (T.b_law_sides) .nil pass0 (pa_cons (pv 0) (pa_cons (pe_callB (clLen (K := K) rfl) (by rfl) T.n_len (by decide +kernel) (pa_cons (pe_ix (ixT (K := K) rfl) (pv 1) pe_int (fun _ _ => rfl)) pa_nil)) (pa_cons pe_int pa_nil)))) pa_nil)))) pa_nil))))), ?_⟩
    refine ⟨_, rfl, ?_⟩
    refine ⟨_, rfl, _, rfl, d, p, q, vp, a, b, rfl, hD, ip, hab, hl0, hl, pa, pb, fun v1 x1 H1 l1 p1 k1 hD1 i1 => ?_⟩
    refine ⟨_, rfl, _, rfl, d, p, q, vp, a, b, 4, rfl, hD1, ip.kp k1, hab, hl, pa, pb, by decide, by decide, fun v2 x2 H2 l2 p2 k2 hD2 i2 => ?_⟩
    refine ⟨_, rfl, ?_⟩
    refine (DE.is (dlen (K := K) (ds := a.map .int) (dix (dv rfl ((ip.kp k1).kp k2)) dint at0)) (by rw [List.length_map])) H2 .refl _ fun vn H3 k3 hvn => ?_
    obtain rfl := hvn.intI
    refine ⟨d, p, q, a.length, 12, rfl, hD2.kp k3, hl, by decide, by decide, fun v3 x3 H4 l3 p3 k4 hD4 i3 => ?_⟩
    refine ⟨Evl.sz_of (by simp), fun r nr => ?_⟩
    have kr : Kp [] H4 (upd H4 r (.lst [v1, v2, v3])) := .new nr
    have hne := hD4.ne nr
    have k14 : Kp [d, p] H1 H4 := k2.trans (k3.up.trans k4)
    have k24 : Kp [d, p] H2 H4 := k3.up.trans k4
    refine ⟨d, p, q, r, [v1, v2, v3], [tI x1, tI x2, tI x3], rfl, hD4.kp kr, upd_same, hne.1, hne.2.1, .cons ((i1.kp k14).kp kr) (.cons ((i2.kp k24).kp kr) (.cons (i3.kp kr) .nil)), by simp, by simp, fun v e H5 he k5 hD5 hv => ?_⟩
    obtain ⟨c, rfl, hcl, hcp⟩ : ∃ c, e = tI c ∧ c.length = a.length ∧ ∀ s ∈ c, 0 < s ∧ s ≤ 42 := by
      have hm : e = tI x1 ∨ e = tI x2 ∨ e = tI x3 := by simpa using he
      rcases hm with rfl | rfl | rfl
      · exact ⟨x1, rfl, l1, p1⟩
      · exact ⟨x2, rfl, l2, fun s hs => ⟨(p2 s hs).1, by have := (p2 s hs).2; omega⟩⟩
      · exact ⟨x3, rfl, l3, fun s hs => ⟨(p3 s hs).1, by have := (p3 s hs).2; omega⟩⟩
    exact k v c H5 hcl hcp (k1.trans (k14.trans (kr.up.trans k5))) hD5 hv

abbrev nl_law_start : List Str := ["_law_deck_here", "_law_axes", "_law_pair_here"]
theorem sc_law_start : FnScope nl_law_start ["_law_deck_here"] (defScope s_law_start) := ⟨rfl, rfl, rfl, by decide +kernel, rfl, by decide +kernel, by decide +kernel⟩
def sp_law_start (K : PySem.W.Frag) : Sp := fun vs H Q _ => ∃ (d p q : Addr), vs = [.ref d] ∧ Dk H d p q ∧ ∀ (v : V) (a b x : List Int) H', Bx a b x → Kp [d, p] H H' → Dk H' d p q → Im K H' v (pageD ((a, b), x)) → Q v H'
theorem ok_law_start (T : Txt K mg) : FnOk P w K mg base CX0 5 (He.ga K "_law_start") (fdA K (He.ga K "_law_start")) ["_law_deck_here"] (sp_law_start K) := by
  refine T.f_law_start.ok sc_law_start (fun vs H Q E h => ?_) (fun cdv A outer s H vs Q E hr h => ?_)
  · obtain ⟨d, p, q, rfl, hD, k⟩ := h
    rfl
  · have nd := sc_law_start.nd
    have hu := hr.units
    obtain ⟨d, p, q, rfl, hD, k⟩ := h
    refine ⟨_, PSs.nox (pss_cons (ps_set (i := 1) nd rfl (Or.inl rfl) (pe_op op_add pe_int (pe_call (ok_law_draw T) (hr.mono (by decide)) (by rfl) T.g_law_draw (T.f_law_draw.kp) (T.b_law_draw) .nil pass0 (pa_cons (pv 0) (pa_cons pe_int pa_nil)))))
      (pss_cons (ps_set (i := 2) nd rfl (Or.inl rfl) (pe_call (ok_law_pair T) (hr.mono (by decide)) (by rfl) T.g_law_pair (T.f_law_pair.kp) (T.b_law_pair) .nil pass0 (pa_cons (pv 0) (pa_cons (pv 1) (pa_cons pe_int pa_nil)))))
      (pss_one (ps_ret (pe_tup (pa_cons (pv 2) (pa_cons (pe_call (ok_law_says T) (hr.mono (by decide)) (by rfl) T.g_law_says (T.f_law_says.kp) (T.b_law_says) .nil pass0 (pa_cons (pv 0) (pa_cons (pv 2) pa_nil))) pa_nil))))))), ?_⟩
    refine opC (drw (K := K) rfl hD (m := 4) (by decide) (by decide) dint fun r H1 r0 r1 k1 hD1 => ?_)
    obtain ⟨n, hn⟩ := Int.eq_ofNat_of_zero_le (show 0 ≤ 1 + r by omega)
    refine ⟨1, r, rfl, rfl, ?_⟩
    refine ⟨_, rfl, _, rfl, d, p, q, n, (by show [V.ref d, V.int (1 + r), V.int 6] = _; rw [hn]), hD1, by omega, by omega, fun vp a b H2 la lb pa pb k2 hD2 ip => ?_⟩
    refine ⟨_, rfl, _, rfl, _, rfl, d, p, q, vp, a, b, rfl, hD2, ip, by omega, by omega, by omega, pa, pb, fun vx x H3 lx px k3 hD3 ix => ?_⟩
    refine ⟨Evl.sz_of (by simp), fun t nt => ?_⟩
    have kt : Kp [] H3 (upd H3 t (.tup [vp, vx])) := .new nt
    refine k _ a b x _ ⟨by omega, by omega, by omega, by omega, fun s hs => ⟨(pa s hs).1, by have := (pa s hs).2; omega⟩, fun s hs => ⟨(pb s hs).1, by have := (pb s hs).2; omega⟩, fun s hs => ⟨(px s hs).1, by have := (px s hs).2; omega⟩⟩ (k1.trans (k2.trans (k3.trans kt.up))) (hD3.kp kt) (.tup (.of upd_same) (.cons ((ip.kp k3).kp kt) (.cons (ix.kp kt) .nil)))

end
end TB
namespace TB
open PySem PySem.Spec PyProof.Rows L2
section
variable {P : Program} {w : World} {K : PySem.W.Frag} {mg : Str → Option Value} {base : Heap}

theorem er_map {α β : Type} (f : α → β) : ∀ (l : List α) (i : Nat), (l.map f).eraseIdx i = (l.eraseIdx i).map f
  | [], _ => rfl
  | _ :: _, 0 => rfl
  | x :: r, i + 1 => by simp [List.eraseIdx, er_map f r i]
theorem er_perm {α : Type} : ∀ (l : List α) (i : Nat) (h : i < l.length), (l[i] :: l.eraseIdx i).Perm l
  | x :: r, 0, _ => by simp
  | x :: r, i + 1, h => by
    have ih := er_perm r i (by simpa using h)
    simp only [List.getElem_cons_succ, List.eraseIdx_cons_succ]
    exact (List.Perm.swap x _ _).trans (ih.cons x)
/-- list(x), x a list that a name holds -/
theorem dlistV {σ : L2.St} {H : Hp} {i : Nat} {r : Addr} {xs : List V} {ds : List PyData} (hv : σ[i]? = some (some (.ref r))) (hr : H r = some (.lst xs)) (hx : ImAll K H xs ds) : DL K (tCB (fun xs H Q => ∃ p ys, xs = [.ref p] ∧ (SqL K H p ys ∨ SqT K H p ys) ∧ ∀ l, H l = none → Q (.ref l) (L2.upd H l (.lst ys))) (tCons (tVar i) tNil)) σ H ds := fun H1 k Q q =>
  ⟨_, hv, r, xs, rfl, .inl (SqL.of (k.get hr)), fun l nl => q l _ xs (.new nl) nl upd_same ((hx.kp k).kp (l := []) (.new nl))⟩

abbrev nl_law_mixed : List Str := ["_law_deck_here", "_law_items", "_law_rest", "_law_found", "_law_turn"]
theorem sc_law_mixed : FnScope nl_law_mixed ["_law_deck_here", "_law_items"] (defScope s_law_mixed) := ⟨rfl, rfl, rfl, by decide +kernel, rfl, by decide +kernel, by decide +kernel⟩
def sp_law_mixed (K : PySem.W.Frag) : Sp := fun vs H Q _ => ∃ (d p q r : Addr) (ns : List Int), vs = [.ref d, .ref r] ∧ Dk H d p q ∧ H r = some (.lst (ns.map V.int)) ∧ r ≠ d ∧ r ≠ p ∧ 0 < ns.length ∧ ns.length ≤ 40 ∧ ∀ (z : Addr) (l : List Int) H', l.Perm ns → Kp [d, p] H H' → Dk H' d p q → H z = none → H' z = some (.lst (l.map V.int)) → Q (.ref z) H'
theorem ok_law_mixed (T : Txt K mg) : FnOk P w K mg base CX0 2 (He.ga K "_law_mixed") (fdA K (He.ga K "_law_mixed")) ["_law_deck_here", "_law_items"] (sp_law_mixed K) := by
  refine T.f_law_mixed.ok sc_law_mixed (fun vs H Q E h => ?_) (fun cdv A outer s H vs Q E hr h => ?_)
  · obtain ⟨d, p, q, r, ns, rfl, hD, hrr, n1, n2, hl0, hl, k⟩ := h
    rfl
  · have nd := sc_law_mixed.nd
    have hu := hr.units
    obtain ⟨d, p, q, r, ns, rfl, hD, hrr, n1, n2, hl0, hl, k⟩ := h
    refine ⟨_, PSs.nox (pss_cons (ps_par (i := 2) (j := 3) rfl nd rfl rfl (by decide) rfl rfl (pa_cons (pe_callTy (clList (K := K) rfl) (by rfl) T.n_list (by decide +kernel) (pa_cons (pv 1) pa_nil)) (pa_cons (pe_lst pa_nil) pa_nil)) (by rfl))
      (pss_cons (ps_for PassesOwn.never rfl (pi_range1 (by rfl) T.n_range (pa_cons (pe_callB (clLen (K := K) rfl) (by rfl) T.n_len (by decide +kernel) (pa_cons (pv 1) pa_nil)) pa_nil)) (pg_name (i := 4) nd rfl (Or.inl rfl)) (pss_one (ps_expr (pe_bm PySem.F.plainAttrs_list PySem.F.slot_list_append PySem.F.type_list_append mt_append (pv 3) (pa_cons (pe_bm PySem.F.plainAttrs_list PySem.F.slot_list_pop PySem.F.type_list_pop mt_popAt (pv 2) (pa_cons (pe_call (ok_law_draw T) (hr.mono (by decide)) (by rfl) T.g_law_draw (T.f_law_draw.kp) (T.b_law_draw) .nil pass0 (pa_cons (pv 0) (pa_cons (pe_callB (clLen (K := K) rfl) (by rfl) T.n_len (by decide +kernel) (pa_cons (pv 2) pa_nil)) pa_nil))) pa_nil)) pa_nil)))))
      (pss_one (ps_ret (pv 3))))), ?_⟩
    refine q2pL (K := K) (ds := ns.map .int) (es := []) (dlistV rfl hrr (ImAll.ints ns)) (dlst danil) fun g f xs ys H1 k1 ng nf hg hf hxs hys => ?_
    obtain rfl := ImAll.ints_inv ns hxs
    cases hys
    have hD1 := hD.kp k1
    have neg := hD.ne ng
    have nef := hD.ne nf
    refine qforR (K := K) (n := ns.length) (dacons (DE.is (dlenV (ds := ns.map .int) rfl (SqL.of (k1.get hrr)) ((ImAll.ints ns))) (by simp)) danil) (by omega)
      (fun i σ' H' => (∃ y, σ' = [some (.ref d), some (.ref r), some (.ref g), some (.ref f), y]) ∧ Kp [d, p] H H' ∧ Dk H' d p q ∧ g ≠ f ∧ ∃ gs fs : List Int, H' g = some (.lst (gs.map V.int)) ∧ H' f = some (.lst (fs.map V.int)) ∧ gs.length = ns.length - i ∧ (gs ++ fs).Perm ns)
      (fun H2 k2 => ⟨⟨none, rfl⟩, (k1.trans k2).up, hD1.kp k2, ?_, ns, [], k2.get hg, k2.get hf, by simp, by simp⟩) (fun i σ' H' hi ⟨⟨y, e⟩, k2, hD2, hgf, gs, fs, hg2, hf2, lg, pg⟩ => ?_) (fun σ' H' ⟨⟨y, e⟩, k2, hD2, hgf, gs, fs, hg2, hf2, lg, pg⟩ => ?_)
    · intro e
      rw [e, hf] at hg
      have := congrArg (fun o => match o with | some (HO.lst l) => l.length | _ => 0) hg
      simp at this
      omega
    · subst e
      refine ⟨_, rfl, .inl ⟨rfl, _, SqL.of hf2⟩, ?_⟩
      refine ⟨_, rfl, .inl ⟨rfl, _, SqL.of hg2⟩, ?_⟩
      refine drw (K := K) rfl hD2 (m := (gs.length : Int)) (by omega) (by omega) (DE.is (dlenV (ds := gs.map .int) rfl (SqL.of hg2) (ImAll.ints gs)) (by simp)) fun t0 H3 t1 t2 k3 hD3 => ?_
      obtain ⟨t, rfl⟩ := Int.eq_ofNat_of_zero_le t1
      have ht : t < gs.length := by omega
      have hg3 : H3 g = some (.lst (gs.map V.int)) := k3.keep g _ hg2 (by simp [neg.1, neg.2.1])
      have hf3 : H3 f = some (.lst (fs.map V.int)) := k3.keep f _ hf2 (by simp [nef.1, nef.2.1])
      refine ⟨g, _, (t : Int), t, .int gs[t], rfl, rfl, hg3, by omega, by omega, (ixN_seq (ixN_ofNat _ t (by simpa using ht))).1, by rw [List.getElem?_map, List.getElem?_eq_getElem ht]; rfl, ?_⟩
      have hf4 : (upd H3 g (.lst ((gs.map V.int).eraseIdx t))) f = some (.lst (fs.map V.int)) := by rw [upd_ne (Ne.symm hgf)]; exact hf3
      have lf : fs.length ≤ ns.length := by
        have := pg.length_eq
        simp at this; omega
      refine ⟨f, _, .int gs[t], rfl, rfl, hf4, Evl.sz_lt (by simp; omega), ?_⟩
      refine ⟨⟨_, rfl⟩, ((k2.trans k3).wn ng).wn nf, (hD3.upd neg).upd nef, hgf, gs.eraseIdx t, fs ++ [gs[t]], ?_, ?_, ?_, ?_⟩
      · rw [upd_ne hgf, upd_same, er_map]
      · rw [upd_same, List.map_append]; rfl
      · rw [List.length_eraseIdx_of_lt ht]; omega
      · have h1 := er_perm gs t ht
        have h2 : (gs.eraseIdx t ++ (fs ++ [gs[t]])).Perm (gs[t] :: gs.eraseIdx t ++ fs) := by
          rw [← List.append_assoc]
          exact (List.perm_append_comm).trans (by simp)
        exact h2.trans ((h1.append_right fs).trans pg)
    · subst e
      have hg0 : gs = [] := List.length_eq_zero_iff.mp (by omega)
      subst hg0
      exact ⟨_, rfl, k f fs H' (by simpa using pg) k2 hD2 nf hf2⟩

end
end TB
/-! defs that are handed the error which a suite handles
The steps follow those of the library: HandS.HotCalls and, for isinstance, HandS.ExcIs. -/
namespace TB
open PySem PySem.Spec PyProof.Rows L2
/-- such a def: it raises nothing; sp is told of the error p -/
structure FnC (P : Program) (w : World) (K : PySem.W.Frag) (mg : Str → Option Value) (base : Heap) (k : Nat) (f : Addr) (fd : FuncData) (ps : List Str) (sp : Addr × Obj → Sp) : Prop where
  len : ∀ p vs H Q E, sp p vs H Q E → vs.length = ps.length
  run : ∀ (A : Around) (outer : List Env) (s : Shared) (H : Hp) (args : Args) (uz : List Value) (vs : List V) (Q : VK) (E : XK) (p : Addr × Obj), L2H.RoomH k A → L2H.PinOk outer H s p → Env0 P w K mg base A outer s H → BindsTo s fd args (ps.zip uz) → Vals vs uz → sp p vs H Q E →
    codeAny (model P w) A (.call (.ref f) args) (CR CX0 outer P w H s Q E) s
section
variable {P : Program} {w : World} {K : PySem.W.Frag} {mg : Str → Option Value} {base : Heap}
theorem fnC_of {x qual : Str} {st : Stmt} {f : Addr} {N ps : List Str} {k : Nat} {sp : Addr × Obj → Sp} (T : FnP K x qual st f) (S : FnScope N ps (defScope st)) (len : ∀ p vs H Q E, sp p vs H Q E → vs.length = ps.length)
    (body : ∀ (cdv : Value) (A : Around) (outer : List Env) (s : Shared) (H : Hp) (vs : List V) (Q : VK) (E : XK) (p : Addr × Obj), L2H.RoomH k (A.deeper (envOfC qual (defScope st) s.heap.objs.size f cdv)) → sp p vs H Q E →
      ∃ t, PSs (L2H.cxH CX0 P w K mg base N qual (defScope st) f cdv A outer s H E p) (defBody st) t ∧ t { nx := fun _ H' => Q .non H', rt := Q } (L2.start N vs) H) :
    FnC P w K mg base (k + 1) f (fdA K f) ps sp := by
  refine ⟨len, fun A outer s H args uz vs Q E p hr hp e0 hb r hs => ?_⟩
  obtain ⟨oc, od, dV, kV, doc, pm, an, cdv, ct, osl, efd, lk, hcd, _, _⟩ := T.ex
  rw [efd] at lk hb
  have inK : K.In s.heap := e0.mod.kin.keeps fun b o e => (e0.bs b o e).1
  have nl : s.heap.NoLimit := e0.mod.nolimit.keeps fun b o e => (e0.bs b o e).1
  have kinds : ∀ z ∈ ps.zip uz, (defScope st).names.lookup z.1 = some .local ∨ ((defScope st).names.lookup z.1 = some .cell ∧ ((cellsFrom (s.heap.objs.size + 1) (defScope st).names []).lookup z.1).isSome = true) := fun z hz =>
    match S.par z.1 (List.of_mem_zip (a := z.1) (b := z.2) hz).1 with
    | .inl g => .inl g
    | .inr g => .inr ⟨g, PySem.W.cellsFrom_some _ _ _ (.inl g)⟩
  refine codeAny_call_function hr.depth (inK _ _ lk) rfl S.co S.gen rfl (PySem.W.codeRec_of inK hcd) (hb _ _ _ _ ?_)
  refine wpAny_newFunctionEnv_cells S.kind kinds fun env he sA fresh => ?_
  subst he
  refine ⟨nl.keeps fresh.toInCall.keep, codeAny_func ?_⟩
  obtain ⟨t, ht, hq⟩ := body cdv A outer s H vs Q E p (hr.deeper _) hs
  have Nv := L2H.inv_startH (CX := CX0) (P := P) (w := w) (K := K) (mg := mg) (base := base) (E := E) S hp e0 (len _ _ _ _ _ hs) r fresh
  refine wpAny_mono (ht.run [] sA (L2.start N vs) H _ Nv hq) (fun fl s' hs' => ?_) fun _ _ z => z
  match fl, hs' with
  | .ret u, ⟨v, _, H', J, rv, q⟩ => exact ⟨v, H', J.os, J.bare, J.base, J.hok, rv, q⟩
  | .next, ⟨_, H', J, q⟩ => exact ⟨.non, H', J.os, J.bare, J.base, J.hok, rfl, q⟩
  | .brk, ⟨_, _, _, q⟩ => cases q
  | .cont, ⟨_, _, _, q⟩ => cases q
end
section
variable {X : Cx} {k : Nat} {f : Addr} {fd : FuncData} {ps : List Str} {sp : Addr × Obj → Sp} {x : Str} {q pos : Pos} {e : Expr} {es : List Expr} {t : TA} {p : Addr × Obj}
/-- g(error), within a suite that handles the error p -/
theorem peCallC {E : XK} (F : FnC X.prog X.w X.K X.mg X.base k f fd ps sp) (hr : L2H.RoomH k X.A) (hp : p ∈ X.pn) (hg : Gl X x) (hm : X.mg x = some (.ref f)) (hk : PySem.W.keepIn X.K (.ref f) = true) (hb : Binds X.K fd ps [])
    (ha : PA X (e :: es) t) (hdb : (x == ("__debug__" : Str)) = false := by decide) (he : starEach (e :: es) X.env = (false, eval e X.env) :: starEach es X.env := by rfl) (hpl : (backTo pos (starEach es X.env)).any (·.1) = false := by rfl) :
    PE X (.Call (.Name x q) (e :: es) [] pos) (tCall (sp p) [] E t) := by
  constructor
  intro pz s τ H Q Nv h
  refine wpAny_Call_Name_kw (ld_glob Nv hg hm ?_ hdb)
  refine PySem.W.callWith_K (h₀ := X.base) Nv.ok.mod.kin hk (thn (ha.run pos pz s τ H _ Nv h) fun uz sA ⟨vs, H1, Nv1, r, z⟩ => ⟨Nv1.kIn, ?_⟩) he hpl
  replace z : sp p (vs ++ []) H1 Q E := z
  rw [List.append_nil] at z
  have hl : (uz ++ []).length = ps.length := by rw [List.append_nil, ← r.length]; exact F.len _ _ _ _ _ z
  have b1 := hb sA uz Nv1.kIn hl
  rw [List.append_nil] at b1
  have P1 := Nv1.pin p (List.mem_append_left _ hp)
  have ok : L2H.PinOk X.stack H1 sA p := ⟨P1.1, P1.2.1, fun hm => (List.mem_cons.mp (Nv1.stkSub p.1 hm)).elim P1.2.2.1 P1.2.2.2.1, P1.2.2.2.2⟩
  refine wpAny_call (codeAny_mono (F.run X.A X.stack sA H1 ⟨uz, []⟩ uz vs Q E p hr ok Nv1.env0 b1 r z) fun y s' hq => ?_)
  match y, hq with
  | .ok (.ret u), hq => exact Nv1.after hq
  | .error _, hq => cases hq
  | .ok .next, hq => cases hq
  | .ok .brk, hq => cases hq
  | .ok .cont, hq => cases hq
/-- isinstance(error, C) where the error is bound up with the context -/
theorem isErr {D : Addr} (C : ExcC X.K D) (hp : p ∈ X.pn) (hz : Zc (.ref D) none p.2) (hf : ∃ vs, p.2.data = .fields vs) : CallR X (.builtin "isinstance") (rIsE X.K D p.1) := by
  intro pz s τ H xs uz Q Nv r h
  obtain ⟨c, cv, b, rfl, hcv, e, q⟩ := h
  cases r with
  | cons rx rr =>
  cases rr with
  | cons rt rr =>
  cases rr
  cases rx
  have ec := hcv _ rt
  subst ec
  have hget := (Nv.pin p (List.mem_append_left _ hp)).1
  obtain ⟨vs, hv⟩ := hf
  have J : PySem.W.InstAt s.heap p.1 p.2 D none := by
    obtain ⟨pa, ⟨oc, od, oda, osl⟩⟩ := p
    obtain ⟨h1, h2⟩ := hz
    dsimp only at h1 h2 hv
    subst h1 h2 hv
    exact ⟨hget, rfl, rfl, trivial⟩
  exact PySem.W.kia_one (PySem.W.handS_kitx_exc C.hg C.hk C.hs C.hd C.ha C.hn C.ht C.hm) Nv.kIn J e (fun z => nomatch z) fun tk => ⟨.bl b, H, Nv.kept (t' := tk) fun _ _ z => z, rfl, q⟩
end
end TB
namespace TB
open PySem PySem.Spec PyProof.Rows L2
section
variable {P : Program} {w : World} {K : PySem.W.Frag} {mg : Str → Option Value} {base : Heap}
/-- the classes of errors -/
structure Exn (K : PySem.W.Frag) (mg : Str → Option Value) : Prop where
  eB : ExcC K (He.ga K "Busy")
  g_BrickError : mg "BrickError" = some (.ref (He.ga K "BrickError"))
  e_BrickError : PySem.W.exmOne K (.ref (He.ga K "Busy")) (.ref (He.ga K "BrickError")) = some true
  g_BadBatch : mg "BadBatch" = some (.ref (He.ga K "BadBatch"))
  k_BadBatch : PySem.W.kitOne K (.ref (He.ga K "Busy")) (.ref (He.ga K "BadBatch")) = some false
  e_BadBatch : PySem.W.exmOne K (.ref (He.ga K "Busy")) (.ref (He.ga K "BadBatch")) = some false
  g_BadBox : mg "BadBox" = some (.ref (He.ga K "BadBox"))
  k_BadBox : PySem.W.kitOne K (.ref (He.ga K "Busy")) (.ref (He.ga K "BadBox")) = some false
  e_BadBox : PySem.W.exmOne K (.ref (He.ga K "Busy")) (.ref (He.ga K "BadBox")) = some false
  g_BadKinds : mg "BadKinds" = some (.ref (He.ga K "BadKinds"))
  k_BadKinds : PySem.W.kitOne K (.ref (He.ga K "Busy")) (.ref (He.ga K "BadKinds")) = some false
  e_BadKinds : PySem.W.exmOne K (.ref (He.ga K "Busy")) (.ref (He.ga K "BadKinds")) = some false
  g_BadOrder : mg "BadOrder" = some (.ref (He.ga K "BadOrder"))
  k_BadOrder : PySem.W.kitOne K (.ref (He.ga K "Busy")) (.ref (He.ga K "BadOrder")) = some false
  e_BadOrder : PySem.W.exmOne K (.ref (He.ga K "Busy")) (.ref (He.ga K "BadOrder")) = some false
  g_BadPaper : mg "BadPaper" = some (.ref (He.ga K "BadPaper"))
  k_BadPaper : PySem.W.kitOne K (.ref (He.ga K "Busy")) (.ref (He.ga K "BadPaper")) = some false
  e_BadPaper : PySem.W.exmOne K (.ref (He.ga K "Busy")) (.ref (He.ga K "BadPaper")) = some false
  g_BadSide : mg "BadSide" = some (.ref (He.ga K "BadSide"))
  k_BadSide : PySem.W.kitOne K (.ref (He.ga K "Busy")) (.ref (He.ga K "BadSide")) = some false
  e_BadSide : PySem.W.exmOne K (.ref (He.ga K "Busy")) (.ref (He.ga K "BadSide")) = some false
  g_BadText : mg "BadText" = some (.ref (He.ga K "BadText"))
  k_BadText : PySem.W.kitOne K (.ref (He.ga K "Busy")) (.ref (He.ga K "BadText")) = some false
  e_BadText : PySem.W.exmOne K (.ref (He.ga K "Busy")) (.ref (He.ga K "BadText")) = some false
  g_Busy : mg "Busy" = some (.ref (He.ga K "Busy"))
  k_Busy : PySem.W.kitOne K (.ref (He.ga K "Busy")) (.ref (He.ga K "Busy")) = some true
  e_Busy : PySem.W.exmOne K (.ref (He.ga K "Busy")) (.ref (He.ga K "Busy")) = some true
  g_NoAxis : mg "NoAxis" = some (.ref (He.ga K "NoAxis"))
  k_NoAxis : PySem.W.kitOne K (.ref (He.ga K "Busy")) (.ref (He.ga K "NoAxis")) = some false
  e_NoAxis : PySem.W.exmOne K (.ref (He.ga K "Busy")) (.ref (He.ga K "NoAxis")) = some false
  g_NoKind : mg "NoKind" = some (.ref (He.ga K "NoKind"))
  k_NoKind : PySem.W.kitOne K (.ref (He.ga K "Busy")) (.ref (He.ga K "NoKind")) = some false
  e_NoKind : PySem.W.exmOne K (.ref (He.ga K "Busy")) (.ref (He.ga K "NoKind")) = some false
  g_NoNumber : mg "NoNumber" = some (.ref (He.ga K "NoNumber"))
  k_NoNumber : PySem.W.kitOne K (.ref (He.ga K "Busy")) (.ref (He.ga K "NoNumber")) = some false
  e_NoNumber : PySem.W.exmOne K (.ref (He.ga K "Busy")) (.ref (He.ga K "NoNumber")) = some false
  g_NoSeam : mg "NoSeam" = some (.ref (He.ga K "NoSeam"))
  k_NoSeam : PySem.W.kitOne K (.ref (He.ga K "Busy")) (.ref (He.ga K "NoSeam")) = some false
  e_NoSeam : PySem.W.exmOne K (.ref (He.ga K "Busy")) (.ref (He.ga K "NoSeam")) = some false
  g_NoVersion : mg "NoVersion" = some (.ref (He.ga K "NoVersion"))
  k_NoVersion : PySem.W.kitOne K (.ref (He.ga K "Busy")) (.ref (He.ga K "NoVersion")) = some false
  e_NoVersion : PySem.W.exmOne K (.ref (He.ga K "Busy")) (.ref (He.ga K "NoVersion")) = some false
  g_NotFilled : mg "NotFilled" = some (.ref (He.ga K "NotFilled"))
  k_NotFilled : PySem.W.kitOne K (.ref (He.ga K "Busy")) (.ref (He.ga K "NotFilled")) = some false
  e_NotFilled : PySem.W.exmOne K (.ref (He.ga K "Busy")) (.ref (He.ga K "NotFilled")) = some false
  g_NothingToUndo : mg "NothingToUndo" = some (.ref (He.ga K "NothingToUndo"))
  k_NothingToUndo : PySem.W.kitOne K (.ref (He.ga K "Busy")) (.ref (He.ga K "NothingToUndo")) = some false
  e_NothingToUndo : PySem.W.exmOne K (.ref (He.ga K "Busy")) (.ref (He.ga K "NothingToUndo")) = some false
  g_Rejected : mg "Rejected" = some (.ref (He.ga K "Rejected"))
  k_Rejected : PySem.W.kitOne K (.ref (He.ga K "Busy")) (.ref (He.ga K "Rejected")) = some false
  e_Rejected : PySem.W.exmOne K (.ref (He.ga K "Busy")) (.ref (He.ga K "Rejected")) = some false
  g_TooLarge : mg "TooLarge" = some (.ref (He.ga K "TooLarge"))
  k_TooLarge : PySem.W.kitOne K (.ref (He.ga K "Busy")) (.ref (He.ga K "TooLarge")) = some false
  e_TooLarge : PySem.W.exmOne K (.ref (He.ga K "Busy")) (.ref (He.ga K "TooLarge")) = some false
  g_TooManyEdits : mg "TooManyEdits" = some (.ref (He.ga K "TooManyEdits"))
  k_TooManyEdits : PySem.W.kitOne K (.ref (He.ga K "Busy")) (.ref (He.ga K "TooManyEdits")) = some false
  e_TooManyEdits : PySem.W.exmOne K (.ref (He.ga K "Busy")) (.ref (He.ga K "TooManyEdits")) = some false
  g_UnlikeAxes : mg "UnlikeAxes" = some (.ref (He.ga K "UnlikeAxes"))
  k_UnlikeAxes : PySem.W.kitOne K (.ref (He.ga K "Busy")) (.ref (He.ga K "UnlikeAxes")) = some false
  e_UnlikeAxes : PySem.W.exmOne K (.ref (He.ga K "Busy")) (.ref (He.ga K "UnlikeAxes")) = some false
  g_Unfit : mg "Unfit" = some (.ref (He.ga K "Unfit"))
  k_Unfit : PySem.W.kitOne K (.ref (He.ga K "Busy")) (.ref (He.ga K "Unfit")) = some false
  e_Unfit : PySem.W.exmOne K (.ref (He.ga K "Busy")) (.ref (He.ga K "Unfit")) = some false
theorem dIsE {σ : L2.St} {H : Hp} {i : Nat} {a D C : Addr} {b : Bool} (hv : σ[i]? = some (some (.ref a))) (e : PySem.W.kitOne K (.ref D) (.ref C) = some b) : DE K (tCB (rIsE K D a) (tCons (tVar i) (tCons (tC (.ref C)) tNil))) σ H (.bool b) := fun H1 k Q q =>
  ⟨_, hv, .ref C, .ref C, b, rfl, fun u r => r, e, q _ H1 .refl (.bl b)⟩
def sp_name (K : PySem.W.Frag) (p : Addr × Obj) : Sp := fun vs H Q _ => vs = [.ref p.1] ∧ Zc (.ref (He.ga K "Busy")) none p.2 ∧ (∃ vs, p.2.data = .fields vs) ∧ RetV H Q (.str "Busy")
theorem dErr {σ : L2.St} {H : Hp} {i : Nat} {p : Addr × Obj} {E : XK} (hv : σ[i]? = some (some (.ref p.1))) (hz : Zc (.ref (He.ga K "Busy")) none p.2) (hf : ∃ vs, p.2.data = .fields vs) : DE K (tCall (sp_name K p) [] E (tCons (tVar i) tNil)) σ H (.str "Busy") := fun H1 k Q q =>
  ⟨_, hv, rfl, hz, hf, fun H2 k2 => q _ H2 k2 (.str _)⟩

abbrev nl_first_name : List Str := ["error"]
theorem sc_first_name : FnScope nl_first_name ["error"] (defScope s_first_name) := ⟨rfl, rfl, rfl, by decide +kernel, rfl, by decide +kernel, by decide +kernel⟩
theorem ok_first_name (T : Txt K mg) (Xn : Exn K mg) : FnC P w K mg base 1 (He.ga K "first_name") (fdA K (He.ga K "first_name")) ["error"] (sp_name K) := by
  refine fnC_of T.f_first_name sc_first_name (fun p vs H Q E h => ?_) (fun cdv A outer s H vs Q E p hr h => ?_)
  · obtain ⟨rfl, _⟩ := h
    rfl
  · have nd := sc_first_name.nd
    obtain ⟨rfl, hz, hf, k⟩ := h
    refine ⟨_, (pss_cons (ps_if (pt_val (pe_callB (isErr (D := He.ga K "Busy") Xn.eB (List.mem_singleton.mpr rfl) hz hf) (by rfl) T.n_isinstance (by decide +kernel) (pa_cons (pv 0) (pa_cons (pe_glob (v := .ref (He.ga K "BadBatch")) rfl Xn.g_BadBatch rfl) pa_nil)))) (pss_one (ps_ret pe_str)) pss_nil)
      (pss_cons (ps_if (pt_val (pe_callB (isErr (D := He.ga K "Busy") Xn.eB (List.mem_singleton.mpr rfl) hz hf) (by rfl) T.n_isinstance (by decide +kernel) (pa_cons (pv 0) (pa_cons (pe_glob (v := .ref (He.ga K "BadBox")) rfl Xn.g_BadBox rfl) pa_nil)))) (pss_one (ps_ret pe_str)) pss_nil)
      (pss_cons (ps_if (pt_val (pe_callB (isErr (D := He.ga K "Busy") Xn.eB (List.mem_singleton.mpr rfl) hz hf) (by rfl) T.n_isinstance (by decide +kernel) (pa_cons (pv 0) (pa_cons (pe_glob (v := .ref (He.ga K "BadKinds")) rfl Xn.g_BadKinds rfl) pa_nil)))) (pss_one (ps_ret pe_str)) pss_nil)
      (pss_cons (ps_if (pt_val (pe_callB (isErr (D := He.ga K "Busy") Xn.eB (List.mem_singleton.mpr rfl) hz hf) (by rfl) T.n_isinstance (by decide +kernel) (pa_cons (pv 0) (pa_cons (pe_glob (v := .ref (He.ga K "BadOrder")) rfl Xn.g_BadOrder rfl) pa_nil)))) (pss_one (ps_ret pe_str)) pss_nil)
      (pss_cons (ps_if (pt_val (pe_callB (isErr (D := He.ga K "Busy") Xn.eB (List.mem_singleton.mpr rfl) hz hf) (by rfl) T.n_isinstance (by decide +kernel) (pa_cons (pv 0) (pa_cons (pe_glob (v := .ref (He.ga K "BadPaper")) rfl Xn.g_BadPaper rfl) pa_nil)))) (pss_one (ps_ret pe_str)) pss_nil)
      (pss_cons (ps_if (pt_val (pe_callB (isErr (D := He.ga K "Busy") Xn.eB (List.mem_singleton.mpr rfl) hz hf) (by rfl) T.n_isinstance (by decide +kernel) (pa_cons (pv 0) (pa_cons (pe_glob (v := .ref (He.ga K "BadSide")) rfl Xn.g_BadSide rfl) pa_nil)))) (pss_one (ps_ret pe_str)) pss_nil)
      (pss_cons (ps_if (pt_val (pe_callB (isErr (D := He.ga K "Busy") Xn.eB (List.mem_singleton.mpr rfl) hz hf) (by rfl) T.n_isinstance (by decide +kernel) (pa_cons (pv 0) (pa_cons (pe_glob (v := .ref (He.ga K "BadText")) rfl Xn.g_BadText rfl) pa_nil)))) (pss_one (ps_ret pe_str)) pss_nil)
      (pss_cons (ps_if (pt_val (pe_callB (isErr (D := He.ga K "Busy") Xn.eB (List.mem_singleton.mpr rfl) hz hf) (by rfl) T.n_isinstance (by decide +kernel) (pa_cons (pv 0) (pa_cons (pe_glob (v := .ref (He.ga K "Busy")) rfl Xn.g_Busy rfl) pa_nil)))) (pss_one (ps_ret pe_str)) pss_nil)
      (pss_cons (ps_if (pt_val (pe_callB (isErr (D := He.ga K "Busy") Xn.eB (List.mem_singleton.mpr rfl) hz hf) (by rfl) T.n_isinstance (by decide +kernel) (pa_cons (pv 0) (pa_cons (pe_glob (v := .ref (He.ga K "NoAxis")) rfl Xn.g_NoAxis rfl) pa_nil)))) (pss_one (ps_ret pe_str)) pss_nil)
      (pss_cons (ps_if (pt_val (pe_callB (isErr (D := He.ga K "Busy") Xn.eB (List.mem_singleton.mpr rfl) hz hf) (by rfl) T.n_isinstance (by decide +kernel) (pa_cons (pv 0) (pa_cons (pe_glob (v := .ref (He.ga K "NoKind")) rfl Xn.g_NoKind rfl) pa_nil)))) (pss_one (ps_ret pe_str)) pss_nil)
      (pss_one (ps_ret pe_non)))))))))))), ?_⟩
    refine qif (b := false) (dtv (dIsE rfl Xn.k_BadBatch)) (fun e => nomatch e) (fun _ H1 k1 => ?_)
    refine qif (b := false) (dtv (dIsE rfl Xn.k_BadBox)) (fun e => nomatch e) (fun _ H2 k2 => ?_)
    refine qif (b := false) (dtv (dIsE rfl Xn.k_BadKinds)) (fun e => nomatch e) (fun _ H3 k3 => ?_)
    refine qif (b := false) (dtv (dIsE rfl Xn.k_BadOrder)) (fun e => nomatch e) (fun _ H4 k4 => ?_)
    refine qif (b := false) (dtv (dIsE rfl Xn.k_BadPaper)) (fun e => nomatch e) (fun _ H5 k5 => ?_)
    refine qif (b := false) (dtv (dIsE rfl Xn.k_BadSide)) (fun e => nomatch e) (fun _ H6 k6 => ?_)
    refine qif (b := false) (dtv (dIsE rfl Xn.k_BadText)) (fun e => nomatch e) (fun _ H7 k7 => ?_)
    exact qif (b := true) (dtv (dIsE rfl Xn.k_Busy)) (fun _ H8 k8 => sretV (K := K) (d := .str "Busy") dstr rfl fun H9 k9 => k H9 (k1.trans (k2.trans (k3.trans (k4.trans (k5.trans (k6.trans (k7.trans (k8.trans k9))))))))) (fun e => nomatch e)

abbrev nl_name_of : List Str := ["error", "found"]
theorem sc_name_of : FnScope nl_name_of ["error"] (defScope s_name_of) := ⟨rfl, rfl, rfl, by decide +kernel, rfl, by decide +kernel, by decide +kernel⟩
theorem ok_name_of (T : Txt K mg) (Xn : Exn K mg) : FnC P w K mg base 2 (He.ga K "name_of") (fdA K (He.ga K "name_of")) ["error"] (sp_name K) := by
  refine fnC_of T.f_name_of sc_name_of (fun p vs H Q E h => ?_) (fun cdv A outer s H vs Q E p hr h => ?_)
  · obtain ⟨rfl, _⟩ := h
    rfl
  · have nd := sc_name_of.nd
    obtain ⟨rfl, hz, hf, k⟩ := h
    refine ⟨_, (pss_cons (ps_if (pt_val (pe_callB (isErr (D := He.ga K "Busy") Xn.eB (List.mem_singleton.mpr rfl) hz hf) (by rfl) T.n_isinstance (by decide +kernel) (pa_cons (pv 0) (pa_cons (pe_glob (v := .ref (He.ga K "NoNumber")) rfl Xn.g_NoNumber rfl) pa_nil)))) (pss_one (ps_ret pe_str)) pss_nil)
      (pss_cons (ps_if (pt_val (pe_callB (isErr (D := He.ga K "Busy") Xn.eB (List.mem_singleton.mpr rfl) hz hf) (by rfl) T.n_isinstance (by decide +kernel) (pa_cons (pv 0) (pa_cons (pe_glob (v := .ref (He.ga K "NoSeam")) rfl Xn.g_NoSeam rfl) pa_nil)))) (pss_one (ps_ret pe_str)) pss_nil)
      (pss_cons (ps_if (pt_val (pe_callB (isErr (D := He.ga K "Busy") Xn.eB (List.mem_singleton.mpr rfl) hz hf) (by rfl) T.n_isinstance (by decide +kernel) (pa_cons (pv 0) (pa_cons (pe_glob (v := .ref (He.ga K "NoVersion")) rfl Xn.g_NoVersion rfl) pa_nil)))) (pss_one (ps_ret pe_str)) pss_nil)
      (pss_cons (ps_if (pt_val (pe_callB (isErr (D := He.ga K "Busy") Xn.eB (List.mem_singleton.mpr rfl) hz hf) (by rfl) T.n_isinstance (by decide +kernel) (pa_cons (pv 0) (pa_cons (pe_glob (v := .ref (He.ga K "NotFilled")) rfl Xn.g_NotFilled rfl) pa_nil)))) (pss_one (ps_ret pe_str)) pss_nil)
      (pss_cons (ps_if (pt_val (pe_callB (isErr (D := He.ga K "Busy") Xn.eB (List.mem_singleton.mpr rfl) hz hf) (by rfl) T.n_isinstance (by decide +kernel) (pa_cons (pv 0) (pa_cons (pe_glob (v := .ref (He.ga K "NothingToUndo")) rfl Xn.g_NothingToUndo rfl) pa_nil)))) (pss_one (ps_ret pe_str)) pss_nil)
      (pss_cons (ps_if (pt_val (pe_callB (isErr (D := He.ga K "Busy") Xn.eB (List.mem_singleton.mpr rfl) hz hf) (by rfl) T.n_isinstance (by decide +kernel) (pa_cons (pv 0) (pa_cons (pe_glob (v := .ref (He.ga K "Rejected")) rfl Xn.g_Rejected rfl) pa_nil)))) (pss_one (ps_ret pe_str)) pss_nil)
      (pss_cons (ps_if (pt_val (pe_callB (isErr (D := He.ga K "Busy") Xn.eB (List.mem_singleton.mpr rfl) hz hf) (by rfl) T.n_isinstance (by decide +kernel) (pa_cons (pv 0) (pa_cons (pe_glob (v := .ref (He.ga K "TooLarge")) rfl Xn.g_TooLarge rfl) pa_nil)))) (pss_one (ps_ret pe_str)) pss_nil)
      (pss_cons (ps_if (pt_val (pe_callB (isErr (D := He.ga K "Busy") Xn.eB (List.mem_singleton.mpr rfl) hz hf) (by rfl) T.n_isinstance (by decide +kernel) (pa_cons (pv 0) (pa_cons (pe_glob (v := .ref (He.ga K "TooManyEdits")) rfl Xn.g_TooManyEdits rfl) pa_nil)))) (pss_one (ps_ret pe_str)) pss_nil)
      (pss_cons (ps_if (pt_val (pe_callB (isErr (D := He.ga K "Busy") Xn.eB (List.mem_singleton.mpr rfl) hz hf) (by rfl) T.n_isinstance (by decide +kernel) (pa_cons (pv 0) (pa_cons (pe_glob (v := .ref (He.ga K "UnlikeAxes")) rfl Xn.g_UnlikeAxes rfl) pa_nil)))) (pss_one (ps_ret pe_str)) pss_nil)
      (pss_cons (ps_if (pt_val (pe_callB (isErr (D := He.ga K "Busy") Xn.eB (List.mem_singleton.mpr rfl) hz hf) (by rfl) T.n_isinstance (by decide +kernel) (pa_cons (pv 0) (pa_cons (pe_glob (v := .ref (He.ga K "Unfit")) rfl Xn.g_Unfit rfl) pa_nil)))) (pss_one (ps_ret pe_str)) pss_nil)
      (pss_cons (ps_set (i := 1) nd rfl (Or.inl rfl) (peCallC (E := E0) (ok_first_name T Xn) (hr.mono (by decide)) (List.mem_singleton.mpr rfl) (by rfl) T.g_first_name T.f_first_name.kp T.b_first_name (pa_cons (pv 0) pa_nil)))
      (pss_one (ps_ret (pe_ifExp (pt_cmpR op_isN (pv 1) pe_non (nomark _)) pe_str (pv 1))))))))))))))), ?_⟩
    refine qif (b := false) (dtv (dIsE rfl Xn.k_NoNumber)) (fun e => nomatch e) (fun _ H1 k1 => ?_)
    refine qif (b := false) (dtv (dIsE rfl Xn.k_NoSeam)) (fun e => nomatch e) (fun _ H2 k2 => ?_)
    refine qif (b := false) (dtv (dIsE rfl Xn.k_NoVersion)) (fun e => nomatch e) (fun _ H3 k3 => ?_)
    refine qif (b := false) (dtv (dIsE rfl Xn.k_NotFilled)) (fun e => nomatch e) (fun _ H4 k4 => ?_)
    refine qif (b := false) (dtv (dIsE rfl Xn.k_NothingToUndo)) (fun e => nomatch e) (fun _ H5 k5 => ?_)
    refine qif (b := false) (dtv (dIsE rfl Xn.k_Rejected)) (fun e => nomatch e) (fun _ H6 k6 => ?_)
    refine qif (b := false) (dtv (dIsE rfl Xn.k_TooLarge)) (fun e => nomatch e) (fun _ H7 k7 => ?_)
    refine qif (b := false) (dtv (dIsE rfl Xn.k_TooManyEdits)) (fun e => nomatch e) (fun _ H8 k8 => ?_)
    refine qif (b := false) (dtv (dIsE rfl Xn.k_UnlikeAxes)) (fun e => nomatch e) (fun _ H9 k9 => ?_)
    refine qif (b := false) (dtv (dIsE rfl Xn.k_Unfit)) (fun e => nomatch e) (fun _ H10 k10 => ?_)
    refine qasg (K := K) (d := .str "Busy") (dErr (K := K) rfl hz hf) fun v H11 k11 hv => ?_
    obtain rfl := hv.strI
    exact sretV (K := K) (d := .str "Busy") (dif (b := false) (dtv (b := false) (disN (K := K) (d := .str "Busy") (dv rfl (.str _)))) (fun e => nomatch e) (fun _ => dv rfl (.str _))) rfl fun H12 k12 => k H12 (k1.trans (k2.trans (k3.trans (k4.trans (k5.trans (k6.trans (k7.trans (k8.trans (k9.trans (k10.trans (k11.trans k12)))))))))))

end
end TB
/-! match of a text with written texts -/
namespace TB
open PySem PySem.Spec PyProof.Rows L2
/-- written texts as patterns -/
inductive Pats : List Pattern → List Str → Prop where
  | nil : Pats [] []
  | cons {a : Str} {j : Nat} {p q : Pos} {ps : List Pattern} {as : List Str} (r : Pats ps as) : Pats (.MatchValue (.Constant (.str a) j p) q :: ps) (a :: as)
section
variable {X : Cx} {pins : List (Addr × Obj)} {σ : L2.St} {H : Hp} {s : Shared}
theorem match_val {a z : Str} {j : Nat} {p q : Pos} {t : Tok} {Q : Option (List (Str × Value)) → Shared → Prop} (I : Inv X pins σ H s) (h : ∀ s', Inv X pins σ H s' → Q (if z = a then some [] else none) s') :
    wpAny (model X.prog X.w) X.A (matchPattern (.MatchValue (.Constant (.str a) j p) q) X.env (.str z t)) Q X.xe s := by
  refine wpAny_matchPattern_Value (thn ((pe_str (X := X)).run pins s σ H (fun v H1 => v = .str a ∧ H1 = H) I ⟨rfl, rfl⟩) fun u s1 ⟨v, H1, I1, r1, e1, e2⟩ => ?_)
  subst e1
  rw [e2] at I1
  refine thn ((op_eq (X := X)) pins s1 σ H (.str z) (.str a) (.str z t) u (fun v H1 => v = .bl (decide (z = a)) ∧ H1 = H) I1 ⟨_, rfl⟩ r1 ⟨rfl, by simp⟩) fun c s2 ⟨v, H2, I2, r2, e3, e4⟩ => ?_
  subst e3
  rw [e4] at I2
  cases r2
  refine wpAny_truthy_bool ?_
  by_cases e : z = a
  · rw [decide_eq_true e]
    have := h s2 I2
    rw [if_pos e] at this
    exact this
  · rw [decide_eq_false e]
    have := h s2 I2
    rw [if_neg e] at this
    exact this
theorem match_first {ps : List Pattern} {as : List Str} (hp : Pats ps as) : ∀ {z : Str} {t : Tok} {s : Shared} {Q : Option (List (Str × Value)) → Shared → Prop}, Inv X pins σ H s → (∀ s', Inv X pins σ H s' → Q (if z ∈ as then some [] else none) s') →
    wpAny (model X.prog X.w) X.A (matchFirst ps X.env (.str z t)) Q X.xe s := by
  induction hp with
  | nil => exact fun I h => wpAny_matchFirst_nil (by have := h _ I; simpa using this)
  | cons r ih =>
    rename_i a j p q ps as
    intro z t s Q I h
    refine wpAny_matchFirst_cons (match_val I fun s1 I1 => ?_)
    by_cases e : z = a
    · rw [if_pos e]
      have := h s1 I1
      rw [if_pos (by simp [e])] at this
      exact this
    · rw [if_neg e]
      refine ih I1 fun s2 I2 => ?_
      have := h s2 I2
      simp only [List.mem_cons, e, false_or] at this
      exact this
end
abbrev TC := Str → TS
/-- a match's cases, asked of a text -/
structure PCs (X : Cx) (cs : List MatchCase) (t : TC) : Prop where
  run : ∀ (pins : List (Addr × Obj)) (s : Shared) (σ : L2.St) (H : Hp) (D : Ends) (z : Str) (tk : Tok) (b : Bool), Inv X pins σ H s → t z D σ H → wpAny (model X.prog X.w) X.A (matchCases cs X.env (.str z tk) b) (SP X pins D) X.xe s
section
variable {X : Cx} {cs : List MatchCase} {body : List Stmt} {tb : TS} {tr : TC} {pos : Pos}
def tcNil : TC := fun _ => tNext
theorem pc_nil : PCs X [] tcNil := ⟨fun pins s σ H D z tk b I h => wpAny_matchCases_nil ⟨σ, H, I, h⟩⟩
def tcVal (a : Str) (tb : TS) (tr : TC) : TC := fun z D σ H => if z = a then tb D σ H else tr z D σ H
theorem pc_val {a : Str} {j : Nat} {p q : Pos} (hb : PSs X body tb) (hr : PCs X cs tr) : PCs X (⟨.MatchValue (.Constant (.str a) j p) q, none, body⟩ :: cs) (tcVal a tb tr) :=
  ⟨fun pins s σ H D z tk b I h => wpAny_matchCases_cons (match_val I fun s1 I1 => by
    unfold tcVal at h
    by_cases e : z = a
    · rw [if_pos e] at h ⊢
      exact wpAny_assignInOrder_none (hb.run pins s1 σ H D I1 h)
    · rw [if_neg e] at h ⊢
      exact hr.run pins s1 σ H D z tk false I1 h)⟩
def tcOr (as : List Str) (tb : TS) (tr : TC) : TC := fun z D σ H => if z ∈ as then tb D σ H else tr z D σ H
theorem pc_or {ps : List Pattern} {as : List Str} {q : Pos} (hp : Pats ps as) (hn : namesOfAll (ps.take 1) = []) (hb : PSs X body tb) (hr : PCs X cs tr) : PCs X (⟨.MatchOr ps q, none, body⟩ :: cs) (tcOr as tb tr) :=
  ⟨fun pins s σ H D z tk b I h => wpAny_matchCases_cons (wpAny_matchPattern_Or (match_first hp I fun s1 I1 => by
    unfold tcOr at h
    by_cases e : z ∈ as
    · rw [if_pos e] at h ⊢
      show (fun r s₁ => _) (some ((namesOfAll (ps.take 1)).filterMap fun n => (([] : List (Str × Value)).lookup n).map (n, ·))) s1
      rw [hn]
      exact wpAny_assignInOrder_none (hb.run pins s1 σ H D I1 h)
    · rw [if_neg e] at h ⊢
      exact hr.run pins s1 σ H D z tk false I1 h))⟩
theorem pc_wild {q : Pos} (hb : PSs X body tb) : PCs X (⟨.MatchAs none none q, none, body⟩ :: cs) (fun _ => tb) :=
  ⟨fun pins s σ H D z tk b I h => wpAny_matchCases_cons (wpAny_matchPattern_Capture (wpAny_assignInOrder_none (hb.run pins s σ H D I h)))⟩
/-- match e: case 'a': .. -/
def tMatch (te : TE) (t : TC) : TS := fun D σ H => te σ H fun x H1 => ∃ z, x = .str z ∧ t z D σ H1
theorem ps_match {e : Expr} {te : TE} {t : TC} (he : PE X e te) (hc : PCs X cs t) : PS X (.Match e cs pos) (tMatch te t) := by
  refine ⟨fun pins s σ H D I h => wpAny_Match (thn (he.run pins s σ H _ I h) fun u s1 ⟨x, H1, I1, r1, z, ex, q⟩ => ?_)⟩
  subst ex
  obtain ⟨tk, rfl⟩ := r1
  exact hc.run pins s1 σ H1 D z tk true I1 q
end
end TB
namespace TB
open PySem PySem.Spec PyProof.Rows L2
section
variable {P : Program} {w : World} {K : PySem.W.Frag} {mg : Str → Option Value} {base : Heap}

structure Shl (K : PySem.W.Frag) (mg : Str → Option Value) : Prop where
  cl : Cls K (He.ga K "Shell")
  aY : NoAttr K (He.ga K "Shell") "yard"
  aN : NoAttr K (He.ga K "Shell") "lines"
  g : mg "Shell" = some (.ref (He.ga K "Shell"))
  m_execute : Meth K (He.ga K "Shell") "execute" (He.ma K (He.ga K "Shell") "execute")
  m_answer : Meth K (He.ga K "Shell") "answer" (He.ma K (He.ga K "Shell") "answer")
  m_told : Meth K (He.ga K "Shell") "told" (He.ma K (He.ga K "Shell") "told")
  mk1 : Mk K (He.ga K "Shell") (He.ma K (He.ga K "Shell") "__init__")
  co : StX.CallO K (He.ga K "Shell") (He.ma K (He.ga K "Shell") "__call__")
theorem sfG {σ : L2.St} {H : Hp} {y dx C : Addr} {fs : List (Str × V)} {f : Str} {i : Nat} {te : TE} {d : PyData} {D : Ends} (c : Cls K C) (hv : σ[i]? = some (some (.ref y))) (h1 : H y = some (.ins C dx fs)) (na : NoAttr K C f) (hl : fs.length < 1000) (ha : DE K te σ H d)
    (k : ∀ v H1, Kp [] H H1 → Im K H1 v d → D.nx σ (upd H1 y (.ins C dx (putF f v fs)))) : sFld K (tVar i) te f D σ H :=
  ha H .refl _ fun v H1 k1 hd => ⟨_, hv, y, C, dx, fs, rfl, k1.get h1, c, na, hl, k v H1 k1 hd⟩
/-- a shell that was just made -/
def Sh (K : PySem.W.Frag) (H : Hp) (z y : Addr) : Prop := ∃ dx l, H z = some (.ins (He.ga K "Shell") dx [("yard", .ref y), ("lines", .ref l)]) ∧ Im K H (.ref l) (.tuple [])

abbrev nl_S_init : List Str := ["self", "yard"]
theorem sc_S_init : FnScope nl_S_init ["self", "yard"] (defScope s_S_init) := ⟨rfl, rfl, rfl, by decide +kernel, rfl, by decide +kernel, by decide +kernel⟩
def sp_S_init (K : PySem.W.Frag) : Sp := fun vs H Q _ => ∃ (z dx y : Addr), vs = [.ref z, .ref y] ∧ H z = some (.ins (He.ga K "Shell") dx []) ∧ ∀ H', Kp [z] H H' → Sh K H' z y → Q .non H'
theorem ok_S_init (T : Txt K mg) (Sl : Shl K mg) : FnOk P w K mg base CX0 1 (He.ma K (He.ga K "Shell") "__init__") (fdA K (He.ma K (He.ga K "Shell") "__init__")) ["self", "yard"] (sp_S_init K) := by
  refine T.f_S_init.ok sc_S_init (fun vs H Q E h => ?_) (fun cdv A outer s H vs Q E hr h => ?_)
  · obtain ⟨z, dx, y, rfl, hz, k⟩ := h
    rfl
  · have nd := sc_S_init.nd
    have hu := hr.units
    obtain ⟨z, dx, y, rfl, hz, k⟩ := h
    refine ⟨_, PSs.nox (pss_cons (psFld (K := K) rfl (pv 0) (pv 1))
      (pss_one (psFld (K := K) rfl (pv 0) (pe_tup pa_nil)))), ?_⟩
    refine ⟨_, rfl, _, rfl, z, _, dx, [], rfl, hz, Sl.cl, Sl.aY, (by show 0 < 1000; decide), ?_⟩
    have k1 : Kp [z] H (upd H z (.ins (He.ga K "Shell") dx [("yard", .ref y)])) := Kp.wi hz (by simp)
    have h2 : (upd H z (.ins (He.ga K "Shell") dx [("yard", .ref y)])) z = some (.ins (He.ga K "Shell") dx [("yard", .ref y)]) := upd_same
    refine sfG (K := K) (fs := [("yard", .ref y)]) (d := .tuple []) Sl.cl rfl h2 Sl.aN (by show 1 < 1000; decide) (dtup danil) fun v H2 k2 hv => ?_
    obtain ⟨l, xs, rfl, hl, hx⟩ := hv.tupI
    have k3 : Kp [z] H2 (upd H2 z (.ins (He.ga K "Shell") dx [("yard", .ref y), ("lines", .ref l)])) := Kp.wi (k2.get upd_same) (by simp)
    exact k _ (k1.trans (k2.up.trans k3)) ⟨dx, l, upd_same, hv.kp k3⟩

end
end TB
namespace TB
open PySem PySem.Spec PyProof.Rows L2
section
variable {P : Program} {w : World} {K : PySem.W.Frag} {mg : Str → Option Value} {base : Heap}

theorem pc_never {X : Cx} {cs : List MatchCase} : PCs X cs (fun _ => tNever) := ⟨fun _ _ _ _ _ _ _ _ _ h => h.elim⟩

abbrev nl_S_told : List Str := ["self", "word", "numbers", "yard"]
theorem sc_S_told : FnScope nl_S_told ["self", "word", "numbers"] (defScope s_S_told) := ⟨rfl, rfl, rfl, by decide +kernel, rfl, by decide +kernel, by decide +kernel⟩
def sp_told (K : PySem.W.Frag) : Sp := fun vs H Q E => ∃ (z y nb : Addr) (wd : Str) (fu b f : Bool) (n : Nat) (gs : List Pg), vs = [.ref z, .str wd, .ref nb] ∧ Sh K H z y ∧ Yd K H y fu b gs ∧ Gd fu n f gs ∧ H nb = some (.lst []) ∧
  ((wd = "swap" ∧ b = true ∧ ∀ H', Kp [] H H' → E (.ref (He.ga K "Busy")) none H') ∨ (wd = "show" ∧ RetV H Q (.str (shT (lastP gs) f))))
theorem ok_S_told (T : Txt K mg) (B : Tab K w mg) (Y : Yrd K mg) (Sl : Shl K mg) (bm : ∀ fu, BMeth K (kC K fu) "edit" (He.ma K (He.ga K "Yard") "edit")) : FnOk P w K mg base (L2.CX P w) 13 (He.ma K (He.ga K "Shell") "told") (fdA K (He.ma K (He.ga K "Shell") "told")) ["self", "word", "numbers"] (sp_told K) := by
  refine T.f_S_told.ok sc_S_told (fun vs H Q E h => ?_) (fun cdv A outer s H vs Q E hr h => ?_)
  · obtain ⟨z, y, nb, wd, fu, b, f, n, gs, rfl, hz, hy, hg, hnb, h⟩ := h
    rfl
  · have nd := sc_S_told.nd
    have hu := hr.units
    obtain ⟨z, y, nb, wd, fu, b, f, n, gs, rfl, hz, hy, hg, hnb, h⟩ := h
    refine ⟨_, (pss_cons (ps_set (i := 3) nd rfl (Or.inl rfl) (peFld (K := K) rfl (pv 0)))
      (pss_one (ps_match (pv 1) (pc_or (.cons (.cons (.cons (.cons (.cons .nil))))) rfl (pss_one (ps_ret (pe_joined (.cons pe_str (.cons (pe_fmt (pe_methSB (pv 3) (Y.kl fu).cl (bm fu) (ok_Y_edit (K := K) T B Y) (hr.mono (by decide)) (passes_call (takes_of rfl rfl rfl rfl) (fun _ _ _ _ h => h)) (pv 1) (pv 2))) .nil)))))
  (pc_val pss_never (pc_val pss_never (pc_val (pss_one (ps_ret (pe_callTy (clStrO (ok_Y_str (K := K) T B Y) (hr.mono (by decide)) T.b_Y_str pass0 (Y.kl fu).o_str) (by rfl) T.n_str (by decide +kernel) (pa_cons (pv 3) pa_nil)))) pc_never))))))), ?_⟩
    obtain ⟨dz, lz, z1, z2⟩ := hz
    refine ⟨_, rfl, z, _, dz, _, .ref y, rfl, z1, Sl.cl, Sl.aY, rfl, ?_⟩
    refine ⟨_, rfl, wd, rfl, ?_⟩
    rcases h with ⟨rfl, rfl, hE⟩ | ⟨rfl, k⟩
    · show if ("swap" : Str) ∈ [("side" : Str), "brick", "swap", "stretch", "more"] then _ else _
      rw [if_pos (by simp)]
      have hy0 := hy
      obtain ⟨dx, pa, la, h1, h2, h3⟩ := hy
      refine ⟨"version ", rfl, by decide +kernel, ?_⟩
      refine ⟨_, rfl, y, dx, _, rfl, h1, yl_edit _ _ _, fun q hq => ⟨_, rfl, _, rfl, nb, [], rfl, .inr (.of ((Kp.new (l := []) hq).get hnb)), upd_same, ?_⟩⟩
      exact ⟨y, .str "swap", [], fu, true, gs, rfl, by simp, hy0.up (.new hq), .busy fun H' k' => hE H' ((Kp.new hq).trans k')⟩
    · show if ("show" : Str) ∈ [("side" : Str), "brick", "swap", "stretch", "more"] then _ else _
      rw [if_neg (by decide +kernel)]
      show if ("show" : Str) = "turn" then _ else _
      rw [if_neg (by decide +kernel)]
      show if ("show" : Str) = "undo" then _ else _
      rw [if_neg (by decide +kernel)]
      show if ("show" : Str) = "show" then _ else _
      rw [if_pos rfl]
      have hy0 := hy
      obtain ⟨dx, pa, la, h1, h2, h3⟩ := hy
      exact ⟨_, rfl, y, dx, _, rfl, h1, y, fu, b, f, n, gs, rfl, hy0, hg, fun H2 k2 => ⟨_, rfl, k H2 k2⟩⟩

end
end TB
namespace TB
open PySem PySem.Spec PyProof.Rows L2
section
variable {P : Program} {w : World} {K : PySem.W.Frag} {mg : Str → Option Value} {base : Heap}

/-- the edits that a busy yard is asked for by _law_do -/
def bzD : Nat → PyData
  | 0 => .tuple [.str "swap"]
  | 1 => .tuple [.str "side", .int 99, .int 0]
  | 2 => .tuple [.str "brick", .int 9, .int 9, .int 0]
  | _ => .tuple [.str "turn", .none]
theorem yl_swap (b : Bool) (pa la : Addr) : (yF b pa la).lookup ("swap" : Str) = none := rfl
theorem yl_turn (b : Bool) (pa la : Addr) : (yF b pa la).lookup ("turn" : Str) = none := rfl
theorem yl_brick (b : Bool) (pa la : Addr) : (yF b pa la).lookup ("brick" : Str) = none := rfl
theorem qword {σ : L2.St} {H : Hp} {i : Nat} {x a : Str} {tu tw tz : TS} {D : Ends} (hv : σ[i]? = some (some (.str x))) (h1 : x = a → ∀ H1, Kp [] H H1 → tu { D with nx := tz D } σ H1) (h2 : x ≠ a → ∀ H1, Kp [] H H1 → tw { D with nx := tz D } σ H1) : tSeq (tIfS (tTest (tOp rEq (tVar i) (tC (.str a)))) tu tw) tz D σ H :=
  qif (b := decide (x = a)) (DT.is (dtv (deq (K := default) (d := .str x) (e := .str a) (dv hv (.str _)) dstr rfl rfl rfl)) (by simp)) (fun e => h1 (of_decide_eq_true e)) (fun e => h2 (of_decide_eq_false e))

abbrev nl_law_do : List Str := ["_law_yard", "_law_edit", "_law_word", "_law_held"]
theorem sc_law_do : FnScope nl_law_do ["_law_yard", "_law_edit"] (defScope s_law_do) := ⟨rfl, rfl, rfl, by decide +kernel, rfl, by decide +kernel, by decide +kernel⟩
def sp_law_do (K : PySem.W.Frag) : Sp := fun vs H Q E => ∃ (y : Addr) (ve : V) (fu : Bool) (gs : List Pg) (n : Nat), vs = [.ref y, ve] ∧ n ≤ 3 ∧ Im K H ve (bzD n) ∧ Yd K H y fu true gs ∧ ∀ H', Kp [] H H' → E (.ref (He.ga K "Busy")) none H'
theorem ok_law_do (T : Txt K mg) (B : Tab K w mg) (Y : Yrd K mg) : FnOk P w K mg base (L2.CX P w) 12 (He.ga K "_law_do") (fdA K (He.ga K "_law_do")) ["_law_yard", "_law_edit"] (sp_law_do K) := by
  refine T.f_law_do.ok sc_law_do (fun vs H Q E h => ?_) (fun cdv A outer s H vs Q E hr h => ?_)
  · obtain ⟨y, ve, fu, gs, n, rfl, hn, ie, hy, k⟩ := h
    rfl
  · have nd := sc_law_do.nd
    have hu := hr.units
    obtain ⟨y, ve, fu, gs, n, rfl, hn, ie, hy, k⟩ := h
    refine ⟨_, (pss_cons (ps_set (i := 2) nd rfl (Or.inl rfl) (pe_ix (ixT (K := K) rfl) (pv 1) pe_int (fun _ _ => rfl)))
      (pss_cons (ps_if (pt_cmpR op_eq (pv 2) pe_str (nomark _)) (pss_one (ps_ret (pe_meth (pv 0) (Y.kl fu).cl (Y.kl fu).m_side (ok_Y_side (K := K) T B Y) (hr.mono (by decide)) T.b_Y_side .nil (passes_call (takes_of rfl rfl rfl rfl) (fun _ _ _ _ h => h)) (pa_cons (pe_ix (ixT (K := K) rfl) (pv 1) pe_int (fun _ _ => rfl)) (pa_cons (pe_ix (ixT (K := K) rfl) (pv 1) pe_int (fun _ _ => rfl)) pa_nil))))) pss_nil)
      (pss_cons (ps_if (pt_cmpR op_eq (pv 2) pe_str (nomark _)) (pss_one (ps_ret (pe_meth (pv 0) (Y.kl fu).cl (Y.kl fu).m_brick (ok_Y_brick (K := K) T B Y) (hr.mono (by decide)) T.b_Y_brick .nil (passes_call (takes_of rfl rfl rfl rfl) (fun _ _ _ _ h => h)) (pa_cons (pe_ix (ixT (K := K) rfl) (pv 1) pe_int (fun _ _ => rfl)) (pa_cons (pe_ix (ixT (K := K) rfl) (pv 1) pe_int (fun _ _ => rfl)) (pa_cons (pe_ix (ixT (K := K) rfl) (pv 1) pe_int (fun _ _ => rfl)) pa_nil)))))) pss_nil)
      (pss_cons (ps_if (pt_cmpR op_eq (pv 2) pe_str (nomark _)) (pss_one (ps_ret (pe_meth0 (pv 0) (Y.kl fu).cl (Y.kl fu).m_swap (ok_Y_swap (K := K) T B Y) (hr.mono (by decide)) T.b_Y_swap .nil (passes_call (takes_of rfl rfl rfl rfl) (fun _ _ _ _ h => h))))) pss_nil)
      (pss_cons (ps_if (pt_cmpR op_eq (pv 2) pe_str (nomark _)) (pss_one (ps_ret (pe_meth (pv 0) (Y.kl fu).cl (Y.kl fu).m_turn (ok_Y_turn (K := K) T B Y) (hr.mono (by decide)) T.b_Y_turn .nil (passes_call (takes_of rfl rfl rfl rfl) (fun _ _ _ _ h => h)) (pa_cons (pe_ix (ixT (K := K) rfl) (pv 1) pe_int (fun _ _ => rfl)) pa_nil)))) pss_nil)
      pss_never))))), ?_⟩
    obtain rfl | rfl | rfl | rfl : n = 0 ∨ n = 1 ∨ n = 2 ∨ n = 3 := by omega
    · refine qasg (K := K) (d := .str "swap") (dix (dv rfl ie) dint (atI_nat (j := 0) rfl)) fun v H1 k1 hv => ?_
      obtain rfl := hv.strI
      refine qword rfl (fun e => absurd e (by decide +kernel)) (fun _ H2 k2 => ?_)
      refine qword rfl (fun e => absurd e (by decide +kernel)) (fun _ H3 k3 => ?_)
      refine qword rfl (fun _ H4 k4 => ?_) (fun e => absurd rfl e)
      have kk := k1.trans (k2.trans (k3.trans k4))
      exact dMethX rfl (hy.up kk) (m := "swap") danil (yl_swap true) fun vs H9 k9 hv => by
        cases hv
        exact ⟨y, fu, true, gs, rfl, (hy.up kk).up k9, .busy fun H' k' => k H' (kk.trans (k9.trans k'))⟩
    · refine qasg (K := K) (d := .str "side") (dix (dv rfl ie) dint (atI_nat (j := 0) rfl)) fun v H1 k1 hv => ?_
      obtain rfl := hv.strI
      refine qword rfl (fun _ H2 k2 => ?_) (fun e => absurd rfl e)
      have kk := k1.trans k2
      exact dMethX rfl (hy.up kk) (m := "side") (dacons (dix (dv rfl (ie.kp kk)) dint (atI_nat (j := 1) rfl)) (dacons (dix (dv rfl (ie.kp kk)) dint (atI_nat (j := 2) rfl)) danil)) (yl_side true) fun vs H9 k9 hv => by
        obtain ⟨v1, v2, rfl, _, _⟩ := hv.inv2
        exact ⟨y, v1, v2, fu, gs, rfl, (hy.up kk).up k9, fun H' k' => k H' (kk.trans (k9.trans k'))⟩
    · refine qasg (K := K) (d := .str "brick") (dix (dv rfl ie) dint (atI_nat (j := 0) rfl)) fun v H1 k1 hv => ?_
      obtain rfl := hv.strI
      refine qword rfl (fun e => absurd e (by decide +kernel)) (fun _ H2 k2 => ?_)
      refine qword rfl (fun _ H3 k3 => ?_) (fun e => absurd rfl e)
      have kk := k1.trans (k2.trans k3)
      exact dMethX rfl (hy.up kk) (m := "brick") (dacons (dix (dv rfl (ie.kp kk)) dint (atI_nat (j := 1) rfl)) (dacons (dix (dv rfl (ie.kp kk)) dint (atI_nat (j := 2) rfl)) (dacons (dix (dv rfl (ie.kp kk)) dint (atI_nat (j := 3) rfl)) danil))) (yl_brick true) fun vs H9 k9 hv => by
        obtain ⟨v1, v2, v3, rfl, _, _, _⟩ := hv.inv3
        exact ⟨y, v1, v2, v3, fu, gs, rfl, (hy.up kk).up k9, fun H' k' => k H' (kk.trans (k9.trans k'))⟩
    · refine qasg (K := K) (d := .str "turn") (dix (dv rfl ie) dint (atI_nat (j := 0) rfl)) fun v H1 k1 hv => ?_
      obtain rfl := hv.strI
      refine qword rfl (fun e => absurd e (by decide +kernel)) (fun _ H2 k2 => ?_)
      refine qword rfl (fun e => absurd e (by decide +kernel)) (fun _ H3 k3 => ?_)
      refine qword rfl (fun e => absurd e (by decide +kernel)) (fun _ H4 k4 => ?_)
      refine qword rfl (fun _ H5 k5 => ?_) (fun e => absurd rfl e)
      have kk := k1.trans (k2.trans (k3.trans (k4.trans k5)))
      exact dMethX rfl (hy.up kk) (m := "turn") (dacons (dix (dv rfl (ie.kp kk)) dint (atI_nat (j := 1) rfl)) danil) (yl_turn true) fun vs H9 k9 hv => by
        obtain ⟨v1, rfl, _⟩ := hv.inv1
        exact ⟨y, v1, fu, true, gs, rfl, (hy.up kk).up k9, .busy fun H' k' => k H' (kk.trans (k9.trans k'))⟩

end
end TB
/-! several except clauses, of which some (named ones) are passed by
The steps follow those of the library: HandS.TryMany (there every clause is unnamed). -/
namespace TB
open PySem PySem.Spec PyProof.Rows L2
abbrev Cl := Value × Option (Addr → Value → Option Addr → TS)
/-- the wish: a clause of None must be passed by -/
def wMix (K : PySem.W.Frag) (Wo : WX) (D : Ends) : List Cl → WX
  | [] => Wo
  | (c, none) :: r => fun cls d τ H => PySem.W.exmOne K cls c = some false ∧ wMix K Wo D r cls d τ H
  | (c, some ts) :: r => fun cls d τ H => ∃ b, PySem.W.exmOne K cls c = some b ∧ (b = true → ∀ a, H a = none → ts a cls d D τ H) ∧ (b = false → wMix K Wo D r cls d τ H)
inductive MixOk (X : Cx) : List ExceptHandler → List Cl → Prop
  | nil : MixOk X [] []
  | skip {x : Str} {c : Value} {nm : Option Str} {body : List Stmt} {np q : Pos} {hs : List ExceptHandler} {l : List Cl} (hc : Names X x c) (r : MixOk X hs l) : MixOk X (.ExceptHandler (some (.Name x np)) nm body q :: hs) ((c, none) :: l)
  | take {x : Str} {c : Value} {ts : Addr → Value → Option Addr → TS} {z0 : Stmt} {zs : List Stmt} {np q : Pos} {hs : List ExceptHandler} {l : List Cl} (hc : Names X x c)
      (hy : ∀ (a : Addr) (oe : Obj) (cls : Value) (d : Option Addr) (pn : List (Addr × Obj)), Zc cls d oe → (∃ vs, oe.data = .fields vs) → PSs (X.suite a ((a, oe) :: pn)) (z0 :: zs) (ts a cls d)) (r : MixOk X hs l) :
      MixOk X (.ExceptHandler (some (.Name x np)) none (z0 :: zs) q :: hs) ((c, some ts) :: l)
section
variable {X : Cx} {b0 : List Stmt} {h0 : ExceptHandler} {hds : List ExceptHandler} {l : List Cl} {pos : Pos} {tb : WX → TS} {Wo : WX}
theorem psMix (e1 : X.stack = X.env :: X.outer) (e2 : X.env.frame = some X.env.locals) (tk : Takes X Wo)
    (hB : ∀ (W : WX) (pz : List (Addr × Obj)) (xe : Value → Shared → Prop), Takes (X.tr pz xe) W → PassesOwn (model X.prog X.w) X.A X.env xe → PSs (X.tr pz xe) b0 (tb W))
    (hh : MixOk X (h0 :: hds) l) : PS X (.Try b0 (h0 :: hds) [] [] pos) (fun D τ H => tb (wMix X.K Wo D l) D τ H) := by
  constructor
  intro pz s τ H D Nv h
  have okX := Nv.ok
  have fr : X.A.frames = some (X.env :: X.outer) := by rw [okX.frames, e1]
  apply wpAny_Try_except
  let xr : Value → Shared → Prop := fun e t => wpAny (model X.prog X.w) X.A (noteFrame e X.env) (fun _ t2 => wpAny (model X.prog X.w) X.A (setFlight e none) (fun _ t3 => wpAny (model X.prog X.w) X.A (handleBy e X.env (h0 :: hds)) (SP X pz D) X.xe t3) X.xe t2) X.xe t
  have hT : Takes (X.tr (X.pn ++ pz) xr) (wMix X.K Wo D l) := by
    intro u s' xx
    obtain ⟨a, B, sI, pins', σ', H', cls, d, rfl, J', nb, up, sky, na, os, ag, wish⟩ := xx
    have J : Inv X pz σ' H' sI := J'.ofTry okX
    have sk : Sky B (X.env :: X.outer) a (Zc cls d) X.env.locals s'.heap := by rw [← e1]; exact sky
    show wpAny (model X.prog X.w) X.A (noteFrame (.ref a) X.env) _ _ _
    refine Sky.land Zc.steady fr e2 sk fun h3 fl up3 => ?_
    have J3 : Inv X pz σ' H' { s' with heap := h3 } := J.landed nb fl.1 (up.trans up3) os ag
    obtain ⟨oe, ve, he, hz, hd⟩ := fl.there
    have nfr : a ∉ frs (X.env :: X.outer) := fun hm => by
      obtain ⟨_, o', e', nf⟩ := fl.2.2.1.mem hm
      rw [he] at e'
      cases e'
      exact nf _ hd
    have nL : a ≠ X.env.locals := fun z => nfr (List.mem_filterMap.mpr ⟨X.env, List.mem_cons_self, by rw [e2, z]⟩)
    have nF : a ∉ X.fs := fun hm => by
      obtain ⟨e, he, q⟩ := List.mem_filterMap.mp hm
      exact nfr (List.mem_filterMap.mpr ⟨e, List.mem_cons_of_mem _ he, q⟩)
    have S3 := J3.suite he hd na nL nF
    have LT : PySem.W.Looks (model X.prog X.w) h3 (typeOf (.ref a)) cls := fun A Q E s k q => wpAny_typeOf_ref (k _ _ he) (by rw [hz.1]; exact q)
    have ask : ∀ {x : Str} {c : Value} {np : Pos} {Q : Value → Shared → Prop} {E : Value → Shared → Prop}, Names X x c → Q c { s' with heap := h3 } → wpAny (model X.prog X.w) (X.A.mark (some (.ref a))) (eval (.Name x np) X.env) Q E { s' with heap := h3 } := fun {x c np Q E} hc q => by
      obtain ⟨hg, hdb, hm | ⟨hm, hv, hn⟩⟩ := hc
      · exact ld_glob (X := X.suite a ((a, oe) :: (X.pn ++ pz))) S3 hg hm q hdb
      · exact ld_blt (X := X.suite a ((a, oe) :: (X.pn ++ pz))) S3 hg hm hv q hn hdb
    have go : ∀ {hs : List ExceptHandler} {l' : List Cl}, MixOk X hs l' → wMix X.K Wo D l' cls d σ' H' → wpAny (model X.prog X.w) X.A (handleBy (.ref a) X.env hs) (SP X pz D) X.xe { s' with heap := h3 } := by
      intro hs l' ok1
      induction ok1 with
      | nil =>
        intro wi
        refine wpAny_handleBy_nil ?_
        obtain ⟨_, _, _, oe, vs, Tr, oT, ts', he, hz, hd, h1, hr⟩ := id fl
        unfold PySem.passOn
        refine wpAny_bind (wpAny_field he hd h1 ?_)
        rw [if_neg (show ¬ ((Value.ref Tr == Value.none) = true) from by simp)]
        have onward : wpAny (model X.prog X.w) X.A (setFlight (.ref a) X.env.frame) (fun _ t4 => wpAny (model X.prog X.w) X.A (throw (.ref a) : Sem Flow) (SP X pz D) X.xe t4) X.xe { s' with heap := h3 } := by
          rw [e2]
          refine HandSPX.setFlight_upZ fl fun h4 hh4 up4 => wpAny_throw (tk _ _ ?_)
          exact ⟨a, B, sI, pz, σ', H', cls, d, rfl, J, nb, (up.trans up3).trans up4, .inr (.inr (by rw [e1]; exact hh4)), na, os, ag, wi⟩
        first
          | exact wpAny_bind (wpAny_pure (wpAny_bind onward))
          | exact wpAny_bind onward
      | skip hc r ih =>
        intro wi
        obtain ⟨w1, w2⟩ := wi
        refine wpAny_handleBy_cons (codeAny_handlers_test (ask hc ((PySem.W.exm_one (M := model X.prog X.w) J3.kIn LT w1).here ?_))) (by intro q; cases q)
        exact ih w2
      | take hc hy r ih =>
        intro wi
        obtain ⟨b, w1, yes, no⟩ := wi
        refine wpAny_handleBy_cons (codeAny_handlers_test (ask hc ((PySem.W.exm_one (M := model X.prog X.w) J3.kIn LT w1).here ?_))) (by intro q; cases q)
        cases b with
        | false => exact ih (no rfl)
        | true =>
          refine codeAny_handlers_suite (HandSPX.lands_againZ fl fun h4 fl4 up4 => ?_)
          have J4 : Inv X pz σ' H' { s' with heap := h4 } := J.landed nb fl4.1 ((up.trans up3).trans up4) os ag
          obtain ⟨oe4, ve4, he4, hz4, hd4⟩ := fl4.there
          refine wpAny_mono ((hy a oe4 cls d (X.pn ++ pz) hz4 ⟨_, hd4⟩).run [] _ _ H' _ (J4.suite he4 hd4 na nL nF) (yes rfl a na)) (fun f t hsp => ?_) (fun _ _ z => z.elim)
          match f, hsp with
          | .next, ⟨_, _, S6, q6⟩ => exact ⟨_, _, S6.unsuite okX, q6⟩
          | .brk, ⟨_, _, S6, q6⟩ => exact ⟨_, _, S6.unsuite okX, q6⟩
          | .cont, ⟨_, _, S6, q6⟩ => exact ⟨_, _, S6.unsuite okX, q6⟩
          | .ret u, ⟨_, _, _, S6, r6, q6⟩ => exact ⟨_, _, _, S6.unsuite okX, r6, q6⟩
    exact go hh wish
  refine wpAny_mono ((hB (wMix X.K Wo D l) (X.pn ++ pz) xr hT PassesOwn.looking).run [] s τ H D (Nv.toTry _) h) (fun f t hsp => ?_) (fun _ _ w => w)
  match f, hsp with
  | .next, ⟨σ', H', J', q⟩ => exact wpAny_execs_nil ⟨σ', H', J'.ofTry okX, q⟩
  | .brk, ⟨σ', H', J', q⟩ => exact ⟨σ', H', J'.ofTry okX, q⟩
  | .cont, ⟨σ', H', J', q⟩ => exact ⟨σ', H', J'.ofTry okX, q⟩
  | .ret u, ⟨v, σ', H', J', r, q⟩ => exact ⟨v, σ', H', J'.ofTry okX, r, q⟩
end
end TB
namespace TB
open PySem PySem.Spec PyProof.Rows L2
section
variable {P : Program} {w : World} {K : PySem.W.Frag} {mg : Str → Option Value} {base : Heap}
theorem yl_undo (b : Bool) (pa la : Addr) : (yF b pa la).lookup ("undo" : Str) = none := rfl
abbrev nl_law_done : List Str := ["_law_yard", "_law_edit", "_law_found", "error"]
theorem sc_law_done : FnScope nl_law_done ["_law_yard", "_law_edit"] (defScope s_law_done) := ⟨rfl, rfl, rfl, by decide +kernel, rfl, by decide +kernel, by decide +kernel⟩
def sp_law_done (K : PySem.W.Frag) : Sp := fun vs H Q _ => ∃ (y : Addr) (ve : V) (fu : Bool) (gs : List Pg) (e : PyData), vs = [.ref y, ve] ∧ (e = .tuple [.str "undo"] ∨ ∃ n, n ≤ 3 ∧ e = bzD n) ∧ Im K H ve e ∧ Yd K H y fu true gs ∧ RetL K H Q [.str "Busy"]
theorem ok_law_done (T : Txt K mg) (B : Tab K w mg) (Y : Yrd K mg) (Xn : Exn K mg) : FnOk P w K mg base CX0 13 (He.ga K "_law_done") (fdA K (He.ga K "_law_done")) ["_law_yard", "_law_edit"] (sp_law_done K) := by
  refine T.f_law_done.ok sc_law_done (fun vs H Q E h => ?_) (fun cdv A outer s H vs Q E hr h => ?_)
  · obtain ⟨y, ve, fu, gs, e, rfl, he, ie, hy, k⟩ := h
    rfl
  · have nd := sc_law_done.nd
    have hu := hr.units
    obtain ⟨y, ve, fu, gs, e, rfl, he, ie, hy, k⟩ := h
    refine ⟨_, PSs.nox (pss_cons (psMix rfl rfl takes0 (fun W pz xe tk _ => (pss_one (ps_set (i := 2) nd rfl (Or.inl rfl) (pe_lst (pa_cons pe_str (pa_cons (pe_ifExp (pt_cmpR op_eq (pe_ix (ixT (K := K) rfl) (pv 1) pe_int (fun _ _ => rfl)) pe_str (nomark _))
   (peMethAt0 (pv 0) (Y.kl fu).cl (Y.kl fu).m_undo (raw0 (ok_Y_undo (K := K) T B Y) T.b_Y_undo) (hr.mono (by decide)) (fun σ => passAt tk σ))
   (pe_callS (ok_law_do (K := K) T B Y) (hr.mono (by decide)) (by rfl) T.g_law_do T.f_law_do.kp T.b_law_do (fun σ => passAt tk σ) (pa_cons (pv 0) (pa_cons (pv 1) pa_nil)))) pa_nil)))))) (.skip ⟨rfl, by decide, .inl Xn.g_NoAxis⟩ (.skip ⟨rfl, by decide, .inl Xn.g_NoKind⟩ (.skip ⟨rfl, by decide, .inl Xn.g_BadSide⟩ (.skip ⟨rfl, by decide, .inl Xn.g_BadOrder⟩ (.skip ⟨rfl, by decide, .inl Xn.g_TooLarge⟩ (.skip ⟨rfl, by decide, .inl Xn.g_NotFilled⟩ (.skip ⟨rfl, by decide, .inl Xn.g_NothingToUndo⟩ (.skip ⟨rfl, by decide, .inl Xn.g_TooManyEdits⟩ (.take ⟨rfl, by decide, .inl Xn.g_Busy⟩ (fun a oe cls d pn hz hf => (pss_one (ps_set (i := 2) nd rfl (Or.inl rfl) (pe_lst (pa_cons pe_str pa_nil))))) .nil))))))))))
      (pss_one (ps_ret (pv 2)))), ?_⟩
    have hit : ∀ H1, Kp [] H H1 → (wMix K (fun _ _ _ _ => False) { nx := fun σ' H' => tRet (tVar 2) { nx := fun _ H' => Q V.non H', rt := Q } σ' H', rt := Q }
        [(Value.ref (He.ga K "NoAxis"), none), (Value.ref (He.ga K "NoKind"), none), (Value.ref (He.ga K "BadSide"), none), (Value.ref (He.ga K "BadOrder"), none), (Value.ref (He.ga K "TooLarge"), none), (Value.ref (He.ga K "NotFilled"), none), (Value.ref (He.ga K "NothingToUndo"), none), (Value.ref (He.ga K "TooManyEdits"), none), (Value.ref (He.ga K "Busy"), some fun a cls d => tAsg (tLst (tCons (tC (V.str "Busy")) tNil)) (gName 2))])
        (.ref (He.ga K "Busy")) none [some (.ref y), some ve, none] H1 := fun H1 k1 => ⟨Xn.e_NoAxis, Xn.e_NoKind, Xn.e_BadSide, Xn.e_BadOrder, Xn.e_TooLarge, Xn.e_NotFilled, Xn.e_NothingToUndo, Xn.e_TooManyEdits, true, Xn.e_Busy, (fun _ a na => ⟨Evl.sz_of (by simp), fun p np => ⟨_, rfl, k p _ _ (k1.trans (.new np)) (k1.free np) upd_same (.cons (.str _) .nil)⟩⟩), (fun e => nomatch e)⟩
    rcases he with rfl | ⟨n, hn, rfl⟩
    · refine (DT.is (b := true) (dtv (K := K) (deq (K := K) (d := .str "undo") (e := .str "undo") (dix (dv rfl ie) dint (atI_nat (j := 0) rfl)) dstr rfl rfl rfl)) rfl) H .refl _ fun H1 k1 => ?_
      obtain ⟨dx, pa, la, h1, h2, h3⟩ := hy.up k1
      refine ⟨_, rfl, y, dx, _, rfl, h1, yl_undo _ _ _, ?_⟩
      exact ⟨y, fu, true, gs, rfl, hy.up k1, (fun _ H' k' => hit H' (k1.trans k')), (fun e => nomatch e)⟩
    · have hq : ∃ s0 ds, bzD n = .tuple (.str s0 :: ds) ∧ s0 ≠ "undo" := by
        obtain rfl | rfl | rfl | rfl : n = 0 ∨ n = 1 ∨ n = 2 ∨ n = 3 := by omega
        · exact ⟨_, _, rfl, by decide +kernel⟩
        · exact ⟨_, _, rfl, by decide +kernel⟩
        · exact ⟨_, _, rfl, by decide +kernel⟩
        · exact ⟨_, _, rfl, by decide +kernel⟩
      obtain ⟨s0, ds, e0, n0⟩ := hq
      have ie' := ie
      rw [e0] at ie'
      refine (DT.is (b := decide (V.str s0 = V.str "undo")) (c := false) (dtv (K := K) (deq (K := K) (d := .str s0) (e := .str "undo") (dix (dv rfl ie') dint (atI_nat (j := 0) rfl)) dstr rfl rfl rfl)) (decide_eq_false fun e => n0 (V.str.inj e))) H .refl _ fun H1 k1 => ?_
      refine ⟨_, rfl, _, rfl, ?_⟩
      exact ⟨y, ve, fu, gs, n, rfl, hn, ie.kp k1, hy.up k1, fun H' k' => hit H' (k1.trans k')⟩

end
end TB
namespace TB
open PySem PySem.Spec PyProof.Rows L2
section
variable {P : Program} {w : World} {K : PySem.W.Frag} {mg : Str → Option Value} {base : Heap}
theorem okG_Y_do_all (T : Txt K mg) (B : Tab K w mg) (Y : Yrd K mg) (kc : Nat) (lf : Addr) (F : FuncData) (sps : Sp) (Fs : GR1 P w K mg base (L2.CX P w) kc lf sps) : GOk P w K mg base (L2.CX P w) (kc + 7) (He.ma K (He.ga K "Yard") "do_all") (fdA K (He.ma K (He.ga K "Yard") "do_all")) ["self", "batch", "on_step"] (sp_do_all K lf F sps) := by
  refine gok T.f_Y_do_all sc_Y_do_all (fun vs H Q E h => ?_) (fun cdv A outer s H vs Q E hr hG h => ?_)
  · obtain ⟨y, vb, os, fu, f, n, gs, its, l, J, rfl, ib, hg, hi, hl, hos, j0, jk, jm, js, k⟩ := h
    rfl
  · have nd := sc_Y_do_all.nd
    have hu := hr.units
    obtain ⟨y, vb, os, fu, f, n, gs, its, l, J, rfl, ib, hg, hi, hl, hos, j0, jk, jm, js, k⟩ := h
    refine ⟨_, (pss_one (ps_for (passes_of rfl) rfl (piE (K := K) rfl (by rfl) T.n_enumerate (pa_cons (pv 1) pa_nil)) (pgT (K := K) (n := 2) rfl rfl (pgs_cons (pg_name (i := 3) nd rfl (Or.inl rfl)) (pgs_cons (pg_name (i := 4) nd rfl (Or.inl rfl)) pgs_nil))) (pss_cons (ps_if (pt_not (pt_val (pe_call (ok_is_edit T B) (hr.mono (by omega)) (by rfl) T.g_is_edit (T.f_is_edit.kp) (T.b_is_edit) .nil pass0 (pa_cons (pv 4) pa_nil)))) (pss_one ps_never) pss_nil)
      (pss_cons (ps_try_thru0 (pss_one (ps_expr (pe_meth (pv 0) (Y.kl fu).cl (Y.kl fu).m_do (ok_Y_do (K := K) T B Y) (hr.mono (by omega)) T.b_Y_do .nil pass0 (pa_cons (pe_ix (ixT (K := K) rfl) (pv 4) pe_int (fun _ _ => rfl)) (pa_cons (pe_slice (slA (K := K) rfl) (pv 4) (po_some pe_int) po_none) pa_nil))))))
      (pss_one (ps_if (pt_cmpR op_notN (pv 2) pe_non (nomark _)) (pss_one (ps_expr (peCallQ1 (F := F) (i := 2) (GR1.at Fs (hr.mono (by omega)) hG) (passes_call (takes_of rfl rfl rfl rfl) (fun _ _ _ _ h => h)) rfl (Or.inl rfl) (pa_cons (pv 0) pa_nil)))) pss_nil)))))), ?_⟩
    refine qforE (D := { nx := fun _ H' => Q .non H', rt := Q }) (ds := its.map itD) (tz := tNext) rfl ib (fun i σ' H' => (∃ a b, σ' = [some (.ref y), some vb, some os, a, b]) ∧ J i H') ⟨⟨none, none, rfl⟩, j0⟩ (fun i σ' H' H2 ⟨e, j⟩ k2 => ⟨e, jm i H' H2 j k2⟩) (fun i σ' H' ⟨_, j⟩ => ⟨l, (jk i H' j).1⟩) (fun i x d σ' H' hi' hd hx ⟨⟨a, b, e⟩, j⟩ => ?_) (fun σ' H' ⟨_, j⟩ => by
      rw [List.length_map] at j
      exact k H' j)
    subst e
    rw [List.length_map] at hi'
    obtain ⟨o, ho, rfl⟩ := getMap hd
    have hmo := hi o (List.mem_of_getElem? ho)
    have hy := (jk i H' j).2
    refine qif (b := false) (DT.is (dtnot (dtB (K := K) (dcall (ds := [itD o]) (d := .bool true) (dacons (dv rfl hx) danil) fun vs H1 k1 hv Q1 q1 => ?_))) rfl) (fun e => nomatch e) (fun _ H1 k1 => ?_)
    · obtain ⟨v1, rfl, i1⟩ := hv.inv1
      exact ⟨v1, o, rfl, i1, fun H2 k2 => q1 _ H2 k2 (.bl _)⟩
    have hx1 := hx.kp k1
    rw [itD_eq] at hx1
    have hgi : Gd fu n f (appN gs (its.take i)) := hg.appN (fun p hp => hi p (List.mem_of_mem_take hp)) (by simp; omega)
    have hli : (appN gs (its.take i)).length < 20 := by rw [appN_len]; simp; omega
    refine dMethX rfl (hy.up k1) (m := "do") (dacons (dix (dv rfl hx1) dint (atI_nat (j := 0) rfl)) (dacons (dslT (dv rfl hx1) (dosome (K := K) dint) donone) danil)) (yl_do true) fun vs H2 k2 hv => ?_
    obtain ⟨v1, v2, rfl, i1, i2⟩ := hv.inv2
    obtain rfl := i1.strI
    rw [cut_tail] at i2
    refine ⟨y, v2, fu, true, f, n, _, o, rfl, i2, (hy.up k1).up k2, hgi, hmo, hli, fun H3 k3 hy3 => ?_⟩
    rw [← appN_take gs its i o ho] at hy3
    have js' := js i H' hi' j H3 (k1.up.trans (k2.up.trans k3)) hy3
    rcases hos with rfl | ⟨rfl, hfo⟩
    · refine sif (b := false) (DT.is (dtv (K := K) (dnotN (dv rfl .non))) rfl) (fun e => nomatch e) (fun _ H4 k4 => ⟨⟨_, _, rfl⟩, jm _ _ _ (js'.1 rfl) k4⟩)
    · refine ⟨_, rfl, rfl, true, rfl, ?_⟩
      obtain ⟨hf3, hs3⟩ := js'.2 rfl
      show if true = true then _ else _
      rw [if_pos rfl]
      exact ⟨rfl, hf3, _, rfl, hf3, hs3 _ fun v H4 j4 => ⟨⟨_, _, rfl⟩, j4⟩⟩

theorem okG_Y_attempt (T : Txt K mg) (B : Tab K w mg) (Y : Yrd K mg) (kc : Nat) (lf : Addr) (F : FuncData) {sps : Sp} (Fs : GR1 P w K mg base (L2.CX P w) kc lf sps) : GOk P w K mg base (L2.CX P w) (kc + 12) (He.ma K (He.ga K "Yard") "attempt") (fdA K (He.ma K (He.ga K "Yard") "attempt")) ["self", "batch", "on_step"] (sp_attempt K lf F sps) := by
  refine gok T.f_Y_attempt sc_Y_attempt (fun vs H Q E h => ?_) (fun cdv A outer s H vs Q E hr hG h => ?_)
  · obtain ⟨y, vb, os, fu, b, gs, rfl, hy, hbz, hfr⟩ := h
    rfl
  · have nd := sc_Y_attempt.nd
    have hu := hr.units
    obtain ⟨y, vb, os, fu, b, gs, rfl, hy, hbz, hfr⟩ := h
    refine ⟨_, (pss_cons (ps_expr (pe_meth0 (pv 0) (Y.kl fu).cl (Y.kl fu).m_require_free (ok_Y_require_free (K := K) T B Y) (hr.mono (by omega)) T.b_Y_require_free .nil (passes_call (takes_of rfl rfl rfl rfl) (fun _ _ _ _ h => h))))
      (pss_cons (ps_if (PW.pt (pw_or (pt_not (pt_val (pe_callB (clIsiT (K := K) rfl) (by rfl) T.n_isinstance (by decide +kernel) (pa_cons (pv 1) (pa_cons (pe_tup (pa_cons (pe_bltn (v := .ty "tuple") (by rfl) T.n_tuple (by decide +kernel) rfl) (pa_cons (pe_bltn (v := .ty "list") (by rfl) T.n_list (by decide +kernel) rfl) pa_nil))) pa_nil))))) (pw_or1 (pt_cmpR op_gt (pe_callB (clLen (K := K) rfl) (by rfl) T.n_len (by decide +kernel) (pa_cons (pv 1) pa_nil)) (pe_glob (v := .int 20) rfl T.c_BATCH.choose_spec ⟨_, rfl⟩) (nomark _))))) (pss_one ps_never) pss_nil)
      (pss_cons (ps_asg (pe_tup (pa_cons (peFld (K := K) rfl (pv 0)) (pa_cons (peFld (K := K) rfl (pv 0)) (pa_cons (pe_callTy (clBoolO (ok_Y_bool (K := K) T B Y) (hr.mono (by omega)) T.b_Y_bool pass0 (Y.kl fu).o_bool) (by rfl) T.n_bool (by decide +kernel) (pa_cons (pv 0) pa_nil)) (pa_cons pe_non pa_nil))))) (pgT (K := K) (n := 4) rfl rfl (pgs_cons (pg_name (i := 3) nd rfl (Or.inl rfl)) (pgs_cons (pg_name (i := 4) nd rfl (Or.inl rfl)) (pgs_cons (pg_name (i := 5) nd rfl (Or.inl rfl)) (pgs_cons (pg_name (i := 6) nd rfl (Or.inl rfl)) pgs_nil))))))
      (pss_cons (psFld (K := K) rfl (pv 0) pe_bl)
      (pss_cons (psFinal rfl rfl rfl (takes_of rfl rfl rfl rfl) (fun W pz xe tk _ => (pss_cons (ps_expr (peMethAt1 (pv 0) (Y.kl fu).cl (Y.kl fu).m_do_all (GOk.at (okG_Y_do_all (K := K) (sps := sps) T B Y kc lf F Fs) T.b_Y_do_all (hr.mono (by omega)) hG) (fun σ => passAt tk σ) (pa_cons (pe_callTy (clTuple (K := K) rfl) (by rfl) T.n_tuple (by decide +kernel) (pa_cons (pv 1) pa_nil)) (pa_cons (pv 2) pa_nil))))
      (pss_one (ps_set (i := 6) nd rfl (Or.inl rfl) (pe_prop (pv 0) (Y.kl fu).cl (Y.kl fu).p_version.choose_spec (ok_Y_version (K := K) T B Y) (hr.mono (by omega)) T.b_Y_version .nil pass0 (by rfl)))))) (pss_cons (psFld (K := K) rfl (pv 0) pe_bl) (pss_one (ps_if (pt_cmpR op_isN (pv 6) pe_non (nomark _)) (pss_cons (psFld (K := K) rfl (pv 0) (pv 3)) (pss_one (psFld (K := K) rfl (pv 0) (pv 4)))) pss_nil))) (fun a pz => (pss_cons (psFld (K := K) rfl (pv 0) pe_bl) (pss_one (ps_if (pt_cmpR op_isN (pv 6) pe_non (nomark _)) (pss_cons (psFld (K := K) rfl (pv 0) (pv 3)) (pss_one (psFld (K := K) rfl (pv 0) (pv 4)))) pss_nil)))))
      (pss_cons (ps_expr (pe_meth (pv 0) (Y.kl fu).cl (Y.kl fu).m_tell (ok_Y_tell (K := K) T B Y) (hr.mono (by omega)) T.b_Y_tell .nil pass0 (pa_cons (pv 5) pa_nil)))
      (pss_one (ps_ret (pe_prop (pv 0) (Y.kl fu).cl (Y.kl fu).p_version.choose_spec (ok_Y_version (K := K) T B Y) (hr.mono (by omega)) T.b_Y_version .nil pass0 (by rfl)))))))))), ?_⟩
    cases b with
    | true =>
      exact dMethX rfl hy (m := "require_free") danil (yl_free true) fun vs H1 k1 hv => by
        cases hv
        exact ⟨y, fu, true, gs, rfl, hy.up k1, (fun _ H2 k2 => hbz rfl H2 (k1.trans k2)), (fun e => nomatch e)⟩
    | false =>
      obtain ⟨p, xs, f, n, its, l, J, JE, rfl, hp, hx, hg, hi, hl10, hl, hyl, hos, j0, jk, jm, js, je, jq⟩ := hfr rfl
      have hlx := hx.len
      rw [List.length_map] at hlx
      refine qdrop (d := .none) (dMeth rfl hy (m := "require_free") danil (yl_free false) fun vs H1 k1 hv Q1 q1 => ?_) fun _ H1 k1 _ => ?_
      · cases hv
        exact ⟨y, fu, false, gs, rfl, hy.up k1, (fun e => nomatch e), (fun _ H2 k2 => q1 _ H2 k2 .non)⟩
      refine qif (b := false) (DT.is (dtor (dtnot (dtB (K := K) (disTL rfl (k1.get hp)))) (fun _ => dtv (K := K) (dB0 (dlenV rfl (.of (k1.get hp)) (hx.kp k1)) dint))) (by simp; omega)) (fun e => nomatch e) (fun _ H2 k2 => ?_)
      have hy2 := (hy.up k1).up k2
      refine qasgG (K := K) (dtup (dacons (dPages Y rfl hy2) (dacons (dLook Y rfl hy2) (dacons (dBoolY rfl hy2 hg) (dacons dnon danil))))) fun v H3 k3 hv => ?_
      obtain ⟨q, ws, rfl, hq, hw⟩ := hv.tupI
      obtain ⟨v1, v2, v3, v4, rfl, i1, i2, i3, i4⟩ := hw.inv4
      obtain rfl := i3.blI
      obtain rfl := i4.nonI
      obtain ⟨pa0, _, rfl, _, _⟩ := i1.tupI
      obtain ⟨la0, _, rfl, _, _⟩ := i2.tupI
      refine ⟨q, _, rfl, hq, rfl, _, _, rfl, _, _, rfl, _, _, rfl, _, _, rfl, rfl, ?_⟩
      have k03 := k1.trans (k2.trans k3)
      obtain ⟨dx, pa, la, h1, h2, h3⟩ := hy.up k03
      refine qsf Y rfl h1 (Y.kl fu).aB (by show 4 < 1000; decide) dbl fun v H4 k4 hv => ?_
      obtain rfl := hv.blI
      have kk : Kp [y] H4 (upd H4 y (.ins (kC K fu) dx (putF "is_busy" (.bl true) (yF false pa la)))) := Kp.wi (k4.get h1) (by simp)
      rw [put_busy] at kk ⊢
      have k05 : Kp [y] H (upd H4 y (.ins (kC K fu) dx (yF true pa la))) := k03.up.trans (k4.up.trans kk)
      have hy5 : Yd K (upd H4 y (.ins (kC K fu) dx (yF true pa la))) y fu true gs := ⟨dx, pa, la, upd_same, (h2.kp k4).kp kk, (h3.kp k4).kp kk⟩
      have kx : Kp l H (upd H4 y (.ins (kC K fu) dx (yF true pa la))) := k05.mem hyl
      have hp5 : (upd H4 y (.ins (kC K fu) dx (yF true pa la))) p = some (.lst xs) := k05.keep p _ hp (fun e => by
        have e1 := List.mem_singleton.mp e
        have h0 := k03.get hp
        rw [e1, h1] at h0
        cases h0)
      have hx5 := hx.kp k05
      have i15 := ((i1.kp k4).kp kk)
      have i25 := ((i2.kp k4).kp kk)
      generalize upd H4 y (.ins (kC K fu) dx (yF true pa la)) = H5 at *
      obtain ⟨dy, pb, lb, b1, b2, b3⟩ := hy5
      refine ⟨_, rfl, y, dy, _, rfl, b1, yl_all _ _ _, ?_⟩
      refine (dtupV (K := K) rfl hp5 hx5) H5 .refl _ fun vt H6 k6 it => ?_
      refine ⟨_, rfl, ?_⟩
      have k06 : Kp [y] H H6 := k05.trans k6.up
      have hyd6 : Yd K H6 y fu true gs := Yd.up ⟨dy, pb, lb, b1, b2, b3⟩ k6
      refine ⟨y, vt, os, fu, f, n, gs, its, l, (fun i H' => J i H' ∧ Kp l H6 H'), rfl, it, hg, hi, hl, ?_, ⟨j0 H6 k06 hyd6, .refl⟩, (fun i H' j => ⟨j.2, (jk i H' j.1).2⟩), (fun i H' H2 j k2 => ⟨jm i H' H2 j.1 k2, j.2.trans k2.up⟩), ?_, ?_⟩
      · rcases hos with h | ⟨h, h'⟩
        · exact .inl h
        · exact .inr ⟨h, fun i H' j => h' i H' j.1⟩
      · intro i H7 hi' j H8 k8 hy8
        obtain ⟨s1, s2⟩ := js i H7 hi' j.1 H8 k8 hy8
        have k68 : Kp l H6 H8 := j.2.trans (k8.mem hyl)
        refine ⟨fun e => ⟨s1 e, k68⟩, fun e => ⟨(s2 e).1, fun Q1 q1 => ?_⟩⟩
        refine (s2 e).2 Q1 _ (fun v H9 j9 k9 => q1 v H9 ⟨j9, k68.trans k9⟩) (fun cls d H9 j9 k9 => ?_)
        -- the error: the suite puts back what was
        obtain ⟨_, ⟨gs3, dz, pc, lc, c1, c2, c3⟩, je3⟩ := je cls d H9 j9
        have k59 : Kp l H5 H9 := k6.up.trans (k68.trans k9)
        refine qsf Y rfl c1 (Y.kl fu).aB (by show 4 < 1000; decide) dbl fun v Ha ka hv => ?_
        obtain rfl := hv.blI
        have ca := ka.get c1
        refine sif (b := true) (DT.is (dtv (K := K) (disN (dv rfl .non))) rfl) (fun _ Hb kb => ?_) (fun e => nomatch e)
        have cb := kb.get (upd_same (H := Ha) (a := y) (o := .ins (kC K fu) dz (putF "is_busy" (.bl false) (yF true pc lc))))
        refine ⟨_, rfl, _, rfl, y, kC K fu, dz, _, rfl, cb, (Y.kl fu).cl, (Y.kl fu).aP, (by show 4 < 1000; decide), ?_⟩
        refine ⟨_, rfl, _, rfl, y, kC K fu, dz, _, rfl, upd_same, (Y.kl fu).cl, (Y.kl fu).aL, (by show 4 < 1000; decide), ?_⟩
        have kz : Kp [y] H9 (upd (upd Hb y (.ins (kC K fu) dz (putF "pages" (.ref pa0) (putF "is_busy" (.bl false) (yF true pc lc))))) y (.ins (kC K fu) dz (putF "look" (.ref la0) (putF "pages" (.ref pa0) (putF "is_busy" (.bl false) (yF true pc lc)))))) :=
          ka.up.trans ((Kp.wi ca (by simp)).trans (kb.up.trans ((Kp.wi cb (by simp)).trans (Kp.wi upd_same (by simp)))))
        refine je3 _ kz ⟨dz, pa0, la0, upd_same, (i15.kp k59).kp kz, (i25.kp k59).kp kz⟩
      · intro H7 j
        have hy7 := (jk _ H7 j.1).2
        rw [List.take_length] at hy7
        have hgN := hg.appN hi hl
        refine sasg (K := K) (d := .int (((appN gs its).length : Int) - 1)) (dVers Y rfl hy7) fun v H8 k8 hv => ?_
        obtain rfl := hv.intI
        obtain ⟨dz, pc, lc, c1, c2, c3⟩ := hy7.up k8
        refine qsf Y rfl c1 (Y.kl fu).aB (by show 4 < 1000; decide) dbl fun v Ha ka hv => ?_
        obtain rfl := hv.blI
        have kb : Kp [y] Ha (upd Ha y (.ins (kC K fu) dz (putF "is_busy" (.bl false) (yF true pc lc)))) := Kp.wi (ka.get c1) (by simp)
        have hyb : Yd K (upd Ha y (.ins (kC K fu) dz (putF "is_busy" (.bl false) (yF true pc lc)))) y fu false (appN gs its) := ⟨dz, pc, lc, upd_same, (c2.kp ka).kp kb, (c3.kp ka).kp kb⟩
        generalize upd Ha y (.ins (kC K fu) dz (putF "is_busy" (.bl false) (yF true pc lc))) = Hb at *
        refine sif (b := false) (DT.is (dtv (K := K) (disN (dv rfl (.int _)))) rfl) (fun e => nomatch e) (fun _ Hc kc' => ?_)
        have hyc := hyb.up kc'
        refine dMethX rfl hyc (m := "tell") (dacons (dv rfl (.bl f)) danil) (yl_tell false) fun vs Hd kd hv => ?_
        obtain ⟨v1, rfl, j1⟩ := hv.inv1
        obtain rfl := j1.blI
        refine ⟨y, fu, false, f, n, _, rfl, hyc.up kd, hgN, fun He' ke hye => ?_⟩
        refine sretV (K := K) (d := .int ((gs.length : Int) + its.length - 1)) (DE.is (dVers Y rfl hye) (by rw [appN_len]; simp)) rfl fun Hf kf => ?_
        exact jq H7 j.1 Hf (k8.up.trans (ka.up.trans (kb.trans (kc'.up.trans (kd.up.trans (ke.trans kf.up)))))) (hye.up kf)

end
end TB
namespace TB
open PySem PySem.Spec PyProof.Rows L2
section
variable {P : Program} {w : World} {K : PySem.W.Frag} {mg : Str → Option Value} {base : Heap}

/-- repr([..]) of data -/
theorem dRepr {σ : L2.St} {H : Hp} {te : TE} {ds : List PyData} (h : DL K te σ H ds) (h1 : (PyData.list ds).showable = true ∧ (PyData.list ds).hasDict = false ∧ (PyData.list ds).depth ≤ 20 ∧ (PyData.list ds).shown.length ≤ sizeLine) : DE K (tCB (rRepr K) (tCons te tNil)) σ H (.str (PyData.list ds).shown) := fun H1 k Q q =>
  h H1 k _ fun p H2 xs k2 np hp hx => ⟨p, xs, ds, rfl, .of hp, hx, h1.1, h1.2.1, h1.2.2.1, h1.2.2.2, q _ H2 k2 (.str _)⟩
theorem lastV {H : Hp} {xs : List V} {gs : List Pg} (hx : ImAll K H xs (gs.map pageD)) (h : gs ≠ []) : ∃ v, atI xs (-1) = some v ∧ Im K H v (pageD (lastP gs)) := by
  have e : gs.map pageD = gs.dropLast.map pageD ++ [pageD (lastP gs)] := by
    conv => lhs; rw [← List.dropLast_concat_getLast h]
    rw [List.map_append, last_eq h]; rfl
  rw [e] at hx
  generalize gs.dropLast.map pageD = l at hx
  have hl := hx.len
  obtain ⟨v, hv, iv⟩ := hx.get (i := l.length) (d := pageD (lastP gs)) (by simp)
  refine ⟨v, ?_, iv⟩
  have e2 : xs = xs.take l.length ++ [v] := by
    have q := List.take_add_one (l := xs) (i := l.length)
    rw [hv, List.take_of_length_le (by simp at hl; omega)] at q
    exact q
  rw [e2]
  exact atI_last _ _
theorem dLastL {σ : L2.St} {H : Hp} {i : Nat} {p : Addr} {xs : List V} {v : V} {d : PyData} (hv : σ[i]? = some (some (.ref p))) (hp : H p = some (.lst xs)) (e : atI xs (-1) = some v) (iv : Im K H v d) : DE K (tOp (rIxL K) (tVar i) (tUn (rU fun i => V.int (-i)) (tC (V.int 1)))) σ H d := fun H1 k Q q =>
  ⟨_, hv, 1, rfl, p, xs, -1, v, rfl, rfl, .of (k.get hp), e, q v H1 .refl (iv.kp k)⟩
theorem dStrY {σ : L2.St} {H : Hp} {y : Addr} {fu b f : Bool} {n : Nat} {gs : List Pg} {E : XK} {i : Nat} (hv : σ[i]? = some (some (.ref y))) (h : Yd K H y fu b gs) (hg : Gd fu n f gs) : DE K (tCB (rStrO (kC K fu) (sp_Y_str K) E) (tCons (tVar i) tNil)) σ H (.str (shT (lastP gs) f)) := fun H1 k Q q => by
  have h0 := h
  obtain ⟨dx, pa, la, h1, h2, h3⟩ := h
  exact ⟨_, hv, y, dx, _, rfl, k.get h1, y, fu, b, f, n, gs, rfl, h0.up k, hg, fun H2 k2 => ⟨_, rfl, q _ H2 k2 (.str _)⟩⟩

abbrev nl_law_shows : List Str := ["_law_yard"]
theorem sc_law_shows : FnScope nl_law_shows ["_law_yard"] (defScope s_law_shows) := ⟨rfl, rfl, rfl, by decide +kernel, rfl, by decide +kernel, by decide +kernel⟩
def sp_law_shows (K : PySem.W.Frag) : Sp := fun vs H Q _ => ∃ (y : Addr) (fu b f : Bool) (n : Nat) (gs : List Pg), vs = [.ref y] ∧ Yd K H y fu b gs ∧ Gd fu n f gs ∧ RetV H Q (.str (PyData.list (shL (lastP gs) gs.length n f)).shown)
theorem okG_law_shows (T : Txt K mg) (B : Tab K w mg) (Y : Yrd K mg) : GOk P w K mg base CX0 13 (He.ga K "_law_shows") (fdA K (He.ga K "_law_shows")) ["_law_yard"] (sp_law_shows K) := by
  refine gok T.f_law_shows sc_law_shows (fun vs H Q E h => ?_) (fun cdv A outer s H vs Q E hr hG h => ?_)
  · obtain ⟨y, fu, b, f, n, gs, rfl, hy, hg, k⟩ := h
    rfl
  · have nd := sc_law_shows.nd
    have hu := hr.units
    obtain ⟨y, fu, b, f, n, gs, rfl, hy, hg, k⟩ := h
    refine ⟨_, PSs.nox (pss_one (ps_ret (pe_callB (cRepr (K := K) rfl hr hG) (by rfl) T.n_repr (by decide +kernel) (pa_cons (pe_lst (pa_cons (pe_prop (pv 0) (Y.kl fu).cl (Y.kl fu).p_pair.choose_spec (ok_Y_pair (K := K) T B Y) (hr.mono (by decide)) T.b_Y_pair .nil pass0 (by rfl)) (pa_cons (pe_prop (pv 0) (Y.kl fu).cl (Y.kl fu).p_box.choose_spec (ok_Y_box (K := K) T B Y) (hr.mono (by decide)) T.b_Y_box .nil pass0 (by rfl)) (pa_cons (pe_prop (pv 0) (Y.kl fu).cl (Y.kl fu).p_version.choose_spec (ok_Y_version (K := K) T B Y) (hr.mono (by decide)) T.b_Y_version .nil pass0 (by rfl)) (pa_cons (pe_prop (pv 0) (Y.kl fu).cl (Y.kl fu).p_news.choose_spec (ok_Y_news (K := K) T B Y) (hr.mono (by decide)) T.b_Y_news .nil pass0 (by rfl)) (pa_cons (pe_callTy (clBoolO (ok_Y_bool (K := K) T B Y) (hr.mono (by decide)) T.b_Y_bool pass0 (Y.kl fu).o_bool) (by rfl) T.n_bool (by decide +kernel) (pa_cons (pv 0) pa_nil)) (pa_cons (pe_callB (clLenO (ok_Y_len (K := K) T B Y) (hr.mono (by decide)) T.b_Y_len pass0 (Y.kl fu).o_len) (by rfl) T.n_len (by decide +kernel) (pa_cons (pv 0) pa_nil)) (pa_cons (pe_callTy (clStrO (ok_Y_str (K := K) T B Y) (hr.mono (by decide)) T.b_Y_str pass0 (Y.kl fu).o_str) (by rfl) T.n_str (by decide +kernel) (pa_cons (pv 0) pa_nil)) pa_nil)))))))) pa_nil)))), ?_⟩
    have hb := hg.bl
    have hle := hg.le
    have hn := hg.nl
    have h4 := hb.l4
    refine sretV (K := K) (d := .str (PyData.list (shL (lastP gs) gs.length n f)).shown) (dRepr (dlst (dacons (dPair Y rfl hy hg.ne) (dacons (dBox Y rfl hy hg.ne) (dacons (dVers Y rfl hy) (dacons (dNews Y rfl hy) (dacons (dBoolY rfl hy hg) (dacons (dLenY rfl hy hg) (dacons (dStrY rfl hy hg) danil))))))) (by show 7 ≤ 100000; decide)) (shL_ok hb (by omega) (by omega))) rfl fun H1 k1 => k H1 k1

abbrev nl_law_due_shows : List Str := ["_law_pages", "_law_news", "_law_pair_here", "_law_box", "_law_is_now", "_law_text"]
theorem sc_law_due_shows : FnScope nl_law_due_shows ["_law_pages", "_law_news"] (defScope s_law_due_shows) := ⟨rfl, rfl, rfl, by decide +kernel, rfl, by decide +kernel, by decide +kernel⟩
def sp_law_due_shows (K : PySem.W.Frag) : Sp := fun vs H Q _ => ∃ (p : Addr) (xs : List V) (n : Nat) (gs : List Pg), vs = [.ref p, .str "same"] ∧ H p = some (.lst xs) ∧ ImAll K H xs (gs.map pageD) ∧ gs ≠ [] ∧ gs.length ≤ 1000 ∧ Bx (lastP gs).1.1 (lastP gs).1.2 (lastP gs).2 ∧ (lastP gs).2.length = n ∧
  RetV H Q (.str (PyData.list (shL (lastP gs) gs.length n (fillB (lastP gs).1.1 (lastP gs).1.2 (lastP gs).2))).shown)
theorem okG_law_due_shows (T : Txt K mg) : GOk P w K mg base CX0 6 (He.ga K "_law_due_shows") (fdA K (He.ga K "_law_due_shows")) ["_law_pages", "_law_news"] (sp_law_due_shows K) := by
  refine gok T.f_law_due_shows sc_law_due_shows (fun vs H Q E h => ?_) (fun cdv A outer s H vs Q E hr hG h => ?_)
  · obtain ⟨p, xs, n, gs, rfl, hp, hx, hne, hl, hb, hn, k⟩ := h
    rfl
  · have nd := sc_law_due_shows.nd
    have hu := hr.units
    obtain ⟨p, xs, n, gs, rfl, hp, hx, hne, hl, hb, hn, k⟩ := h
    refine ⟨_, PSs.nox (pss_cons (ps_asg (pe_ix (ixL (K := K) rfl) (pv 0) (pe_un un_neg pe_int) (fun _ _ => rfl)) (pgT (K := K) (n := 2) rfl rfl (pgs_cons (pg_name (i := 2) nd rfl (Or.inl rfl)) (pgs_cons (pg_name (i := 3) nd rfl (Or.inl rfl)) pgs_nil))))
      (pss_cons (ps_set (i := 4) nd rfl (Or.inl rfl) (pe_call (ok_law_is_full T) (hr.mono (by decide)) (by rfl) T.g_law_is_full (T.f_law_is_full.kp) (T.b_law_is_full) .nil pass0 (pa_cons (pe_ix (ixL (K := K) rfl) (pv 0) (pe_un un_neg pe_int) (fun _ _ => rfl)) pa_nil)))
      (pss_cons (ps_set (i := 5) nd rfl (Or.inl rfl) (pe_op op_add_str (pe_op op_add_str (pe_op op_add_str (pe_call (ok_law_kinds_text T) (hr.mono (by decide)) (by rfl) T.g_law_kinds_text (T.f_law_kinds_text.kp) (T.b_law_kinds_text) .nil pass0 (pa_cons (pv 2) pa_nil)) pe_str) (pe_call (ok_law_sides_text T) (hr.mono (by decide)) (by rfl) T.g_law_sides_text (T.f_law_sides_text.kp) (T.b_law_sides_text) .nil pass0 (pa_cons (pv 3) pa_nil))) (pe_ifExp (pt_val (pv 4)) pe_str pe_str)))
      (pss_one (ps_ret (pe_callB (cRepr (K := K) rfl hr hG) (by rfl) T.n_repr (by decide +kernel) (pa_cons (pe_lst (pa_cons (pv 2) (pa_cons (pv 3) (pa_cons (pe_op op_sub (pe_callB (clLen (K := K) rfl) (by rfl) T.n_len (by decide +kernel) (pa_cons (pv 0) pa_nil)) pe_int) (pa_cons (pv 1) (pa_cons (pv 4) (pa_cons (pe_callB (clLen (K := K) rfl) (by rfl) T.n_len (by decide +kernel) (pa_cons (pv 3) pa_nil)) (pa_cons (pv 5) pa_nil)))))))) pa_nil))))))), ?_⟩
    have la := hb.la
    have lb := hb.lb
    have l4 := hb.l4
    obtain ⟨v0, hv0, iv0⟩ := lastV hx hne
    show tSeq (tAsg (tOp (rIxL K) (tVar 0) (tUn (rU fun i => V.int (-i)) (tC (V.int 1)))) (gTup K 2 (gCons (gName 2) (gCons (gName 3) gNil)))) _ _ _ _
    refine q2 (K := K) (x := pairD (lastP gs).1) (y := tI (lastP gs).2) (dLastL rfl hp hv0 iv0) fun vp vx H1 k1 ip ix => ?_
    refine qasg (K := K) (d := .bool (fillB (lastP gs).1.1 (lastP gs).1.2 (lastP gs).2)) (dcall (ds := [pageD (lastP gs)]) (dacons (dLastL rfl (k1.get hp) hv0 (iv0.kp k1)) danil) fun vs H2 k2 hv Q1 q1 => ?_) fun vb H2 k2 hvb => ?_
    · obtain ⟨v1, rfl, j1⟩ := hv.inv1
      exact ⟨v1, _, _, _, rfl, j1, hb, fun H3 k3 => q1 _ H3 k3 (.bl _)⟩
    obtain rfl := hvb.blI
    have ip2 := ip.kp k2
    have ix2 := ix.kp k2
    have k12 := k1.trans k2
    have tl1 := kTx_len (sTx_len hb.pa (by omega)) (sTx_len hb.pb (by omega))
    have tl2 := sTx_len hb.px (by omega)
    have e1 : (Str.ofString " in ").length = 4 := by decide
    refine qasg (K := K) (d := .str (shT (lastP gs) (fillB (lastP gs).1.1 (lastP gs).1.2 (lastP gs).2))) (DE.is (dcatS (dcatS (dcatS (a := kTx (lastP gs).1.1 (lastP gs).1.2) (b := " in ") (dcall (ds := [pairD (lastP gs).1]) (dacons (dv rfl ip2) danil) fun vs H3 k3 hv Q1 q1 => ?_) dstr (by omega)) (b := sTx (lastP gs).2) (dcall (ds := [tI (lastP gs).2]) (dacons (dv rfl ix2) danil) fun vs H3 k3 hv Q1 q1 => ?_) (by rw [Str.length_append]; omega)) (b := if fillB (lastP gs).1.1 (lastP gs).1.2 (lastP gs).2 = true then ": filled" else ": barred") (dif (dtB (K := K) (dv rfl (.bl _))) (fun e => by rw [if_pos e]; exact dstr) (fun e => by rw [e]; exact dstr)) (by
      have e2 : (if fillB (lastP gs).1.1 (lastP gs).1.2 (lastP gs).2 = true then (": filled" : Str) else ": barred").length = 8 := by split <;> decide
      rw [Str.length_append, Str.length_append]; omega)) (by
        congr 1
        unfold shT
        have e5 : (Str.ofString ": filled").cps = (Str.ofString ": ").cps ++ (Str.ofString "filled").cps := by decide
        have e6 : (Str.ofString ": barred").cps = (Str.ofString ": ").cps ++ (Str.ofString "barred").cps := by decide
        cases fillB (lastP gs).1.1 (lastP gs).1.2 (lastP gs).2 <;> exact Str.ext' (by simp [Str.cps_append, List.foldl, Str.empty, e5, e6]))) fun vt H3 k3 hvt => ?_
    · obtain ⟨v1, rfl, j1⟩ := hv.inv1
      exact ⟨v1, _, _, rfl, j1, hb.pa, Nat.le_trans (Nat.le_of_eq la) l4, hb.pb, Nat.le_trans (Nat.le_of_eq lb) l4, fun H4 k4 => q1 _ H4 k4 (.str _)⟩
    · obtain ⟨v1, rfl, j1⟩ := hv.inv1
      exact ⟨v1, _, rfl, j1, hb.px, by omega, fun H4 k4 => q1 _ H4 k4 (.str _)⟩
    obtain rfl := hvt.strI
    have kk := k12.trans k3
    refine sretV (K := K) (d := .str (PyData.list (shL (lastP gs) gs.length n (fillB (lastP gs).1.1 (lastP gs).1.2 (lastP gs).2))).shown) (dRepr (dlst (dacons (dv rfl (ip2.kp k3)) (dacons (dv rfl (ix2.kp k3)) (dacons (DE.is (dI0 (dlenV rfl (.of (kk.get hp)) (hx.kp kk)) dint) (by rw [List.length_map])) (dacons (dv rfl (.str _)) (dacons (dv rfl (.bl _)) (dacons (DE.is (dlen (ds := (lastP gs).2.map .int) (dv rfl (ix2.kp k3))) (by rw [List.length_map, hn])) (dacons (dv rfl (.str _)) danil))))))) (by show 7 ≤ 100000; decide)) (shL_ok hb hl (by omega))) rfl fun H4 k4 => k H4 (kk.trans k4)

end
end TB
/-! a for statement in a generator
The steps follow those of the library: PyProof.GenRules (its for that collects), HandS.GenBody and the loop of HandS.Flow. -/
namespace TB
open PySem PySem.Spec PyProof.Rows L2 GenW
abbrev outX (env : Env) : Value → Sem PySem.Fin := fun e => (do noteFrame e env; theTreesLotGoes e : Sem Unit).wrap (fun _ => .raise e) .raise id id
abbrev turnK (tg : Expr) (it : Value) (body : List Stmt) (env : Env) : Flow → Sem PySem.Fin := fun f => match f with
  | .next | .cont => .pure (.again (.forLoop tg it body [] env))
  | .brk => .pure (.done .next)
  | .ret v => .pure (.done (.ret v))
section
variable {M : Model} {A : Around} {R : GenEnd} {Y : Protocol} {n : Nat} {s₀ : Shared} {c : Code} {fs : List Frame} {s : Shared} {env : Env} {J : Value → Sem PySem.Fin} {gdn : Bool → Bool} {lvs : List Value → List Value}
theorem seg_for {K : Flow → Sem PySem.Fin} {tg iter : Expr} {body : List Stmt} {pos : Pos} (hs : ∀ x, foldedSetIterable iter env x = pure x)
    (h : wpAny M (A.over c fs) (eval iter env) (fun x sA => wpAny M (A.over c fs) (pyIter x) (fun it sB => ∀ p, Seg M A R Y n s₀ (.forLoop tg it body [] env) (M.den (.forLoop tg it body [] env))
        (.ret (fun r => ((match r with | .ok f => (.pure f : Sem Flow) | .error e => .raise e).onRaise (cameBack env)).wrap K J gdn lvs) none (gdn false) (lvs []) c p [] :: fs) sB)
      (fun x s' => Seg M A R Y n s₀ c (J x) fs s') sA) (fun x s' => Seg M A R Y n s₀ c (J x) fs s') s) :
    Seg M A R Y n s₀ c ((exec (.For tg iter body [] pos) env).wrap K J gdn lvs) fs s := by
  rw [exec_For]
  refine seg_at ?_
  show Seg M A R Y n s₀ c ((eval iter env >>= fun v => foldedSetIterable iter env v >>= fun x => standAt iter.pos >>= fun _ => holding [x] (pyIter x) >>= fun it => runOwn (.forLoop tg it body [] env) env).wrap K J gdn lvs) fs s
  refine seg_bind_wrap (wpAny_mono h (fun x sA h1 => ?_) fun _ _ q => q)
  rw [hs x]
  refine seg_bind_wrap (wpAny_pure ?_)
  refine seg_bind_wrap (wpAny_standAt ?_)
  refine seg_bind_wrap (wpAny_holding (wpAny_mono h1 (fun it sB h2 => ?_) fun _ _ q => q))
  exact seg_call h2
theorem seg_forTurn {prog : Program} {w : World} {tg : Expr} {it : Value} {body : List Stmt}
    (h : wpAny (model prog w) (A.over (.forLoop tg it body [] env) fs) (pyNext it) (fun r sA => match r with
        | none => Seg (model prog w) A R Y n s₀ (.block [] env) (.pure (.done .next)) fs sA
        | some v => wpAny (model prog w) (A.over (.forLoop tg it body [] env) fs) (letOwnedTupleGo tg it v) (fun _ sB => wpAny (model prog w) (A.over (.forLoop tg it body [] env) fs) (assign tg env v)
            (fun _ s3 => Seg (model prog w) A R Y n s₀ (.forLoop tg it body [] env) ((execs body env).wrap (turnK tg it body env) (outX env) id id) fs s3)
            (fun x s' => Seg (model prog w) A R Y n s₀ (.forLoop tg it body [] env) (outX env x) fs s') sB) (fun x s' => Seg (model prog w) A R Y n s₀ (.forLoop tg it body [] env) (outX env x) fs s') sA)
      (fun x s' => Seg (model prog w) A R Y n s₀ (.forLoop tg it body [] env) (outX env x) fs s') s) :
    Seg (model prog w) A R Y n s₀ (.forLoop tg it body [] env) ((model prog w).den (.forLoop tg it body [] env)) fs s := by
  show Seg _ A R Y n s₀ _ ((forTurn tg it body [] env).onRaise (fun x => do noteFrame x env; theTreesLotGoes x)) fs s
  unfold forTurn
  rw [Sem.onRaise_eq_wrap]
  refine seg_bind_wrap (wpAny_standAt ?_)
  refine seg_bind_wrap (wpAny_onRaise (wpAny_mono h (fun r sA h1 => ?_) fun x s' h' => wpAny_standAt ?_))
  · cases r with
    | none => exact seg_again rfl h1
    | some v =>
      refine seg_bind_wrap (wpAny_mono h1 (fun _ sB h2 => ?_) fun x s' h' => ?_)
      · refine seg_bind_wrap (wpAny_mono h2 (fun _ s3 h3 => ?_) fun x s' h' => ?_)
        · rw [Sem.bind_eq_wrap', Sem.wrap_wrap]
          rw [Sem.wrap_congr (execs body env) _ _ (K' := turnK tg it body env) (H' := outX env) (fun f => by cases f <;> rfl)
            (fun e => by first | exact Sem.bind_eq_wrap _ _ | (show (do noteFrame e env; theTreesLotGoes e : Sem Unit).bind (fun _ => .raise e) = _; rw [Sem.bind_eq_wrap]))]
          exact h3
        · first
            | (show Seg _ A R Y n s₀ _ ((do noteFrame x env; theTreesLotGoes x : Sem Unit).bind fun _ => .raise x) fs s'; rw [Sem.bind_eq_wrap]; exact h')
            | exact h'
      · first
          | (show Seg _ A R Y n s₀ _ ((do noteFrame x env; theTreesLotGoes x : Sem Unit).bind fun _ => .raise x) fs s'; rw [Sem.bind_eq_wrap]; exact h')
          | exact h'
  · first
      | (show Seg _ A R Y n s₀ _ ((do noteFrame x env; theTreesLotGoes x : Sem Unit).bind fun _ => .raise x) fs s'; rw [Sem.bind_eq_wrap]; exact h')
      | exact h'
end

section
variable {X : Cx} {pos : Pos} {tg iter : Expr} {body : List Stmt}
def tGFor (wi : TI) (g : TG) (tb : TGn) : TGn := fun D ys τ H => wi τ H fun J H1 => ∃ W : Nat → Nat → List V → L2.St → Hp → Prop, (∃ m, W 0 m ys τ H1) ∧ ∀ i m ys τ H, W i m ys τ H →
  (J.stop i H ∧ D.nx ys τ H) ∨ (J.go i H ∧ ∃ N : List V → L2.St → Hp → Prop, (∀ ys' σ' H', N ys' σ' H' → ∃ m', m' < m ∧ W (i + 1) m' ys' σ' H') ∧ ∀ x H', J.yld i H x H' → g x τ H' fun σ2 H2 => tb { D with nx := N, ct := N, bk := D.nx } ys σ2 H2)
/-- within a loop's own code over the frame that it came from -/
theorem gc_for {S : Addr} {ip ip' : List (Addr × Obj)} {A : Around} {c c' : Code} {fs : List Frame} {gdn : Bool → Bool} {k : Result → Sem PySem.Fin} {l kp : List Value} {p : Pos} (g : GC X S ip A c fs gdn) (hw : c'.weight = 0) (hu : c'.cUnits = 0) (hip : ∀ p ∈ ip', p.1 ≠ S) :
    GC X S ip' A c' (.ret k none (gdn false) l c p kp :: fs) id :=
  let q := gc_loop (k := k) (c' := c') (l := l) (kp := kp) (p := p) g hw hu
  ⟨g.pn, hip, g.apart, q.over, q.split, q.guard, q.gd⟩
theorem gs_for {wi : TI} {g : TG} {tb : TGn} (hp : PassesOwn (model X.prog X.w) X.A X.env X.xe) (hc : X.calm = true) (hi : PI X tg iter wi) (hg : PG X tg g) (hb : GSs X body tb)
    (hs : ∀ x, foldedSetIterable iter X.env x = pure x := by intro _; rfl) : GS X (.For tg iter body [] pos) (tGFor wi g tb) := by
  refine ⟨fun A S ip R n ys s₀ c fs K J gdn lvs s τ H D gc hn k hI ht => ?_⟩
  obtain ⟨acc0, cc0, r0, I0⟩ := hI
  refine seg_for hs ?_
  rw [gc.over]
  refine wpAny_mono (hi.run _ s τ H _ I0 ht) (fun v sA h1 => wpAny_mono h1 (fun itv sB h2 => ?_) fun x s' hx => k.exc n s₀ x s' hx) fun x s' hx => k.exc n s₀ x s' hx
  obtain ⟨it, fp, tn, J1, H2, e, Nv2, T, st2, f2, W, ⟨m0, w0⟩, turn⟩ := h2
  subst e
  intro p
  have stat : ∀ {H' : Hp} {acc : Array Value} {cc : Nat}, (∀ b ∈ fp, H' b = none) → ∀ b ∈ fp, FpOk X ((S, lstObj acc cc) :: ip) H' b := fun {H' acc cc} hn b hb => by
    obtain ⟨_, y1, y2, q3, q4, q5⟩ := f2 b hb
    exact ⟨hn b hb, y1, y2, q3, q4, fun p hp => by
      rcases List.mem_append.mp hp with z | z
      · exact q5 p (List.mem_append_left _ z)
      · rcases List.mem_cons.mp z with z | z
        · rw [z]; exact q5 (S, lstObj acc0 cc0) (List.mem_append_right _ List.mem_cons_self)
        · exact q5 p (List.mem_append_right _ (List.mem_cons_of_mem _ z))⟩
  have fS : ∀ b ∈ fp, b ≠ S := fun b hb z => by
    obtain ⟨_, _, _, _, _, q5⟩ := f2 b hb
    exact q5 (S, lstObj acc0 cc0) (List.mem_append_right _ List.mem_cons_self) z.symm
  have gl := fun (ip' : List (Addr × Obj)) (hip : ∀ p ∈ ip', p.1 ≠ S) (kk : Result → Sem PySem.Fin) => gc_for (k := kk) (c' := .forLoop tg (.ref it) body [] X.env) (l := lvs []) (kp := []) (p := p) gc rfl rfl hip
  have loop : ∀ (m i n : Nat) (ys : List V) (s₀ s : Shared) (τ : L2.St) (H : Hp), n + ys.length = sizeLine → W i m ys τ H → GI X S ip ys τ H s → tn i s.heap → (∀ b ∈ fp, H b = none) →
      Seg (model X.prog X.w) A R (GY X S) n s₀ (.forLoop tg (.ref it) body [] X.env) ((model X.prog X.w).den (.forLoop tg (.ref it) body [] X.env))
        (.ret (fun r => ((match r with | .ok f => (.pure f : Sem Flow) | .error e => .raise e).onRaise (cameBack X.env)).wrap K J gdn lvs) none (gdn false) (lvs []) c p [] :: fs) s := by
    intro m
    induction m using Nat.strongRecOn with
    | ind m ih =>
      intro i n ys s₀ s τ H hn w hI st3 fr3
      have g0 := gl ip gc.ip (fun r => ((match r with | .ok f => (.pure f : Sem Flow) | .error e => .raise e).onRaise (cameBack X.env)).wrap K J gdn lvs)
      have ee : ∀ (n : Nat) (s₀ : Shared) (x : Value) (s' : Shared), X.xe x s' → Seg (model X.prog X.w) A R (GY X S) n s₀ (.forLoop tg (.ref it) body [] X.env) (outX X.env x)
          (.ret (fun r => ((match r with | .ok f => (.pure f : Sem Flow) | .error e => .raise e).onRaise (cameBack X.env)).wrap K J gdn lvs) none (gdn false) (lvs []) c p [] :: fs) s' := fun n s₀ x s' hx => by
        refine seg_wrap ?_
        rw [g0.over]
        refine wpAny_bind (wpAny_mono (hp x s' hx) (fun _ s'' hcb => wpAny_theTreesLotGoes ?_) fun y s'' hcb => ?_)
        · exact seg_leaf (.error x) (seg_cameBack gc k hcb)
        · exact seg_leaf (.error y) (seg_cameBack gc k hcb)
      obtain ⟨acc, cc, r, Nv⟩ := hI
      refine seg_forTurn ?_
      rw [g0.over]
      rcases turn i m ys τ H w with ⟨stop, qn⟩ | ⟨go, N, hN, step⟩
      · refine wpAny_mono (T.done X rfl rfl rfl hc i _ s τ H X.xe Nv (stat fr3) st3 stop) (fun r' s4 hr => ?_) fun x s' hx => ee n s₀ x s' hx
        obtain ⟨hr, I4⟩ := hr
        subst hr
        exact seg_leaf (.ok .next) (k.ok n ys s₀ s4 .next hn ⟨τ, H, ⟨acc, cc, r, I4⟩, qn⟩)
      · refine wpAny_mono (T.item X rfl rfl rfl hc i _ s τ H X.xe Nv (stat fr3) st3 go) (fun r' s4 hr => ?_) fun x s' hx => ee n s₀ x s' hx
        obtain ⟨u, hr, h4⟩ := hr
        subst hr
        refine wpAny_mono h4 (fun _ s5 h5 => ?_) fun x s' hx => ee n s₀ x s' hx
        obtain ⟨x, H5, I5, r5, y5, st5, fr5⟩ := h5
        have I5' : Inv X ((S, lstObj acc cc) :: (ip ++ pinsAt fp s5.heap)) τ H5 s5 := I5.pinned (stat fr5) (T.obj _ _ st5)
        refine wpAny_mono (hg.run _ s5 τ H5 x u _ I5' r5 (step x H5 y5)) (fun _ s6 h6 => ?_) fun x s' hx => ee n s₀ x s' hx
        obtain ⟨σ6, H6, I6, q6⟩ := h6
        have hip' : ∀ p ∈ ip ++ pinsAt fp s5.heap, p.1 ≠ S := fun p hp => by
          rcases List.mem_append.mp hp with z | z
          · exact gc.ip p z
          · exact fS p.1 (of_pinsAt z).1
        have un : ∀ {ys7 : List V} {σ7 : L2.St} {H7 : Hp} {s7 : Shared}, GI X S (ip ++ pinsAt fp s5.heap) ys7 σ7 H7 s7 → GI X S ip ys7 σ7 H7 s7 := fun {ys7 σ7 H7 s7} hI7 => by
          obtain ⟨acc7, c7, r7, I7⟩ := hI7
          exact ⟨acc7, c7, r7, Inv.unpinned (pins := (S, lstObj acc7 c7) :: ip) I7⟩
        have pinAt : ∀ {ys7 : List V} {σ7 : L2.St} {H7 : Hp} {s7 : Shared}, GI X S (ip ++ pinsAt fp s5.heap) ys7 σ7 H7 s7 → ∀ b o, (b, o) ∈ pinsAt fp s5.heap → s7.heap.get? b = some o ∧ H7 b = none := fun {ys7 σ7 H7 s7} hI7 b o hm => by
          obtain ⟨acc7, c7, r7, I7⟩ := hI7
          have q := I7.pin (b, o) (List.mem_append_right _ (List.mem_cons_of_mem _ (List.mem_append_right _ hm)))
          exact ⟨q.1, q.2.1⟩
        refine hb.run A S (ip ++ pinsAt fp s5.heap) R n ys s₀ _ _ _ _ id id s6 σ6 H6 { D with nx := N, ct := N, bk := D.nx } (gl _ hip' _) hn ⟨fun n' ys' s₀' s7 f hn' hs => ?_, fun n' s₀' x s7 hx => ee n' s₀' x s7 hx⟩ ⟨acc, cc, r, I6⟩ q6
        have again : ∀ {σ7 : L2.St} {H7 : Hp}, GI X S (ip ++ pinsAt fp s5.heap) ys' σ7 H7 s7 → N ys' σ7 H7 → Seg (model X.prog X.w) A R (GY X S) n' s₀' (.forLoop tg (.ref it) body [] X.env) (.pure (.again (.forLoop tg (.ref it) body [] X.env)))
            (.ret (fun r => ((match r with | .ok f => (.pure f : Sem Flow) | .error e => .raise e).onRaise (cameBack X.env)).wrap K J gdn lvs) none (gdn false) (lvs []) c p [] :: fs) s7 := fun {σ7 H7} I7 n7 => by
          obtain ⟨m', hm, w7⟩ := hN ys' σ7 H7 n7
          refine seg_again rfl (ih m' hm (i + 1) n' ys' s₀' s7 σ7 H7 hn' w7 (un I7) (T.keep _ _ _ st5 fun b hb o e => (pinAt I7 b o (mem_pinsAt hb e)).1) fun b hb => ?_)
          obtain ⟨o, e, d⟩ := T.obj _ _ st5 b hb
          exact (pinAt I7 b o (mem_pinsAt hb e)).2
        cases f with
        | next => obtain ⟨σ7, H7, I7, n7⟩ := hs; exact again I7 n7
        | cont => obtain ⟨σ7, H7, I7, n7⟩ := hs; exact again I7 n7
        | brk => obtain ⟨σ7, H7, I7, q7⟩ := hs; exact seg_leaf (.ok .next) (k.ok n' ys' s₀' s7 .next hn' ⟨σ7, H7, un I7, q7⟩)
        | ret v => obtain ⟨x7, σ7, H7, I7, r7, q7⟩ := hs; exact seg_leaf (.ok (.ret v)) (k.ok n' ys' s₀' s7 (.ret v) hn' ⟨x7, σ7, H7, un I7, r7, q7⟩)
  exact loop m0 0 n ys s₀ sB τ H2 hn w0 ⟨acc0, cc0, r0, Nv2⟩ st2 fun b hb => (f2 b hb).1
end
end TB
namespace TB
open PySem PySem.Spec PyProof.Rows L2
section
variable {P : Program} {w : World} {K : PySem.W.Frag} {mg : Str → Option Value} {base : Heap}

abbrev nl_Y_each_version : List Str := ["self", "version", "pair", "box"]
theorem sc_Y_each_version : GScope nl_Y_each_version ["self"] (defScope s_Y_each_version) := ⟨rfl, rfl, rfl, by decide +kernel, rfl, by decide +kernel, by decide +kernel⟩
/-- as many as the yard has pages -/
def sp_each (K : PySem.W.Frag) : SpG := fun vs H Q _ => ∃ (y : Addr) (fu b f : Bool) (n : Nat) (gs : List Pg), vs = [.ref y] ∧ Yd K H y fu b gs ∧ Gd fu n f gs ∧ ∀ (ys : List V) H', ys.length = gs.length → Kp [] H H' → Q ys H'
theorem ok_Y_each_version (T : Txt K mg) (B : Tab K w mg) (Y : Yrd K mg) : GFn P w K mg base 8 (He.ma K (He.ga K "Yard") "each_version") (fdA K (He.ma K (He.ga K "Yard") "each_version")) ["self"] (sp_each K) := by
  obtain ⟨oc, od, dV, kV, doc, pm, an, cdv, ct, osl, efd, lk, hcd, _, _⟩ := T.f_Y_each_version.ex
  rw [efd] at lk ⊢
  refine gfn_of lk hcd sc_Y_each_version (fun vs H Q E h => ?_) (fun A outer s H vs Q E pn hr h => ?_)
  · obtain ⟨y, fu, b, f, n, gs, rfl, _⟩ := h
    rfl
  · have nd := sc_Y_each_version.nd
    have hu := hr.units
    obtain ⟨y, fu, b, f, n, gs, rfl, hy, hg, k⟩ := h
    refine ⟨_, (gss_cons (gs_for owns_gcx rfl (piE (K := K) rfl (by rfl) T.n_enumerate (pa_cons (peFld (K := K) rfl (pv 0)) pa_nil)) (pgT (K := K) (n := 2) rfl rfl (pgs_cons (pg_name (i := 1) nd rfl (Or.inl rfl)) (pgs_cons (pgT (K := K) (n := 2) rfl rfl (pgs_cons (pg_name (i := 2) nd rfl (Or.inl rfl)) (pgs_cons (pg_name (i := 3) nd rfl (Or.inl rfl)) pgs_nil))) pgs_nil))) (gss_cons (gs_yield (pe_tup (pa_cons (pv 1) (pa_cons (pe_call (ok_is_filled T) (hr.mono (by decide)) (by rfl) T.g_is_filled (T.f_is_filled.kp) (T.b_is_filled) .nil pass0 (pa_cons (pv 2) (pa_cons (pv 3) pa_nil))) pa_nil)))) gss_nil)) gss_nil), ?_⟩
    unfold tGThen tGFor iEnT
    refine (dacons (K := K) (dPages Y (i := 0) (σ := [some (.ref y), none, none, none]) rfl hy) danil) H .refl _ fun us H1 k1 hv => ?_
    obtain ⟨v1, rfl, i1⟩ := hv.inv1
    obtain ⟨pa, xs, rfl, hq, hx⟩ := i1.tupI
    have hlx := hx.len
    rw [List.length_map] at hlx
    have hle := hg.le
    refine ⟨pa, xs, rfl, hq, fun i m ys σ' H' => (∃ u v w, σ' = [some (.ref y), u, v, w]) ∧ ys.length = i ∧ m = gs.length - i ∧ i ≤ gs.length ∧ Kp [] H1 H', ⟨gs.length, ⟨none, none, none, rfl⟩, rfl, by omega, by omega, .refl⟩, fun i m ys σ' H' ⟨⟨u, v, w, eσ⟩, hi, hm, hle', k2⟩ => ?_⟩
    subst eσ
    by_cases hlt : i < gs.length
    · refine .inr ⟨⟨xs, xs[i]'(by omega), k2.sqT hq, by simp⟩, fun ys' σ' H' => (∃ u v w, σ' = [some (.ref y), u, v, w]) ∧ ys'.length = i + 1 ∧ Kp [] H1 H', fun ys' σ' H' ⟨q1, q2, q3⟩ => ⟨gs.length - (i + 1), by omega, q1, q2, rfl, hlt, q3⟩, fun x H3 hyl => ?_⟩
      obtain ⟨Tt, x0, rfl, nT, rfl, e4⟩ := hyl
      have k3 : Kp [] H' (upd H' Tt (.tup [.int (i : Nat), x0])) := .new nT
      obtain ⟨d, hd, ix⟩ := (hx.kp (k2.trans k3)).getV (e4 xs (k2.sqT hq))
      obtain ⟨g, hgm, rfl⟩ := getMap hd
      have hb := (hg.bx g (List.mem_of_getElem? hgm)).1
      obtain ⟨pb, ws, rfl, hqb, hws⟩ := ix.tupI
      obtain ⟨w1, w2, rfl, j1, j2⟩ := hws.inv2
      refine ⟨Tt, _, rfl, .of upd_same, rfl, _, _, rfl, _, _, rfl, pb, _, rfl, hqb, rfl, _, _, rfl, _, _, rfl, rfl, rfl, ?_⟩
      refine ⟨Nat.lt_of_lt_of_le (show ys.length < 100000 by omega) (Evl.sz_of (Nat.le_refl _)), ?_⟩
      refine (dtup (K := K) (ds := [.int (i : Nat), .bool (fillB g.1.1 g.1.2 g.2)]) (dacons (dv rfl (.int _)) (dacons (dcall (ds := [pairD g.1, tI g.2]) (dacons (dv rfl j1) (dacons (dv rfl j2) danil)) fun vs H4 k4 hv Q1 q1 => ?_) danil))) _ .refl _ fun v9 H9 k9 _ => ?_
      · obtain ⟨z1, z2, rfl, l1, l2⟩ := hv.inv2
        exact ⟨z1, z2, _, _, _, rfl, l1, l2, hb, fun d' hd' => by
          rw [paper_fill hb hd']
          exact fun H5 k5 => q1 _ H5 k5 (.bl _)⟩
      · exact ⟨⟨_, _, _, rfl⟩, by simp [hi], k2.trans (k3.trans k9)⟩
    · refine .inl ⟨⟨xs, k2.sqT hq, by omega⟩, ?_⟩
      exact k ys H' (by omega) (k1.trans k2)

end
end TB
/-! zip of a text and a list that are both empty
The steps follow those of the library: the zip of HandS.Iter, over KE.GoesZip. -/
namespace TB
open PySem PySem.Spec PyProof.Rows L2
def It0 (K : PySem.W.Frag) (b : Addr) : It := ⟨fun _ _ => False, fun _ _ _ _ => False, fun _ H => SqL K H b []⟩
theorem turn_zip0 {P : Program} {w : World} {K : PySem.W.Frag} {elts : List Expr} {kk : Nat} {tpos : Pos} {b z TI TO i1 i2 : Addr} {t : Tok} (D : ZipSep2 z TI TO i1 i2 [i1] [i2, b]) (hb : b ≠ i2) :
    Turn P w K (.Tuple elts kk tpos) (It0 K b) [z, TI, TO, i1, i2] z (fun _ h => IsZip h z TI TO .none ∧ IsTupOf2 h TI (.ref i1) (.ref i2) ∧ IsTupOf2 h TO .none .none ∧ h.IsStrIter i1 "str_ascii_iterator" (Str.ofString "") t 0 ∧ h.IsListIter i2 b 0) where
  mem := by simp
  obj := fun i h ⟨hz, hTI, hTO, ⟨o1, e1, _, d1⟩, ⟨o2, e2, _, d2⟩⟩ c hc => by
    have e' : c = z ∨ c = TI ∨ c = TO ∨ c = i1 ∨ c = i2 := by simpa using hc
    rcases e' with q | q | q | q | q <;> rw [q]
    · exact ⟨_, hz, fun v q => nomatch q⟩
    · exact ⟨_, hTI, fun v q => nomatch q⟩
    · exact ⟨_, hTO, fun v q => nomatch q⟩
    · exact ⟨o1, e1, fun v q => by rw [d1] at q; cases q⟩
    · exact ⟨o2, e2, fun v q => by rw [d2] at q; cases q⟩
  keep := fun i h h' ⟨hz, hTI, hTO, ⟨o1, e1, h1⟩, h2⟩ k => ⟨k z (by simp) _ hz, k TI (by simp) _ hTI, k TO (by simp) _ hTO, ⟨o1, k i1 (by simp) _ e1, h1⟩, h2.at fun o q => k i2 (by simp) o q⟩
  item := fun X hP hw hK hc i pz s τ H E Nv hf st hg => hg.elim
  done := fun X hP hw hK hc i pz s τ H E Nv hf st hg => by
    subst hP hw hK
    obtain ⟨hz, hTI, hTO, h1, h2⟩ := st
    obtain ⟨its, rv, p, _⟩ := Nv.list hg
    cases rv
    have hh : X.A.in1.handled = none := Nv.ok.hd hc
    exact wpAny_pyNext_zipD2_end D (Draws.strAscii (A := X.A.in1) hh i1 (Str.ofString "") t) (Draws.list (A := X.A.in1) hh i2 b hb #[]) hz hTI hTO h1 ⟨h2, p.isList⟩ (Nat.zero_le _) (Nat.zero_le _) (.inl rfl) fun h' tk hk =>
      ⟨rfl, Nv.turnedL (t' := tk) (ch := [z, TI, TO, i1, i2]) (fun c o hb q => hk c o (fun q' => hb (by simp [q'])) (fun q' => hb (by simp [q'])) (fun q' => hb (by simp [q'])) (fun q' => hb (by simp [q'])) q) hf⟩
  self := fun A i s Q E st h => wpAny_pyIter_zip st.1 h
def iZip0 (K : PySem.W.Frag) (ta : TA) : TI := fun τ H R => ta τ H fun vs H1 => ∃ b, vs = [.str "", .ref b] ∧ SqL K H1 b [] ∧ R (It0 K b) H1
theorem pi_zip0 {X : Cx} {K : PySem.W.Frag} {e e2 : Expr} {ta : TA} {p pos tpos : Pos} {elts : List Expr} {kk : Nat} (hK : X.K = K) (hg : Gl X "zip") (hm : X.mg "zip" = none) (ha : PA X [e, e2] ta)
    (hs : starEach [e, e2] X.env = (false, eval e X.env) :: starEach [e2] X.env := by rfl) (hpl : (backTo pos (starEach [e2] X.env)).any (·.1) = false := by rfl) : PI X (.Tuple elts kk tpos) (.Call (.Name "zip" p) [e, e2] [] pos) (iZip0 K ta) := by
  subst hK
  refine ⟨fun pz s τ H R Nv h => Call_ (ld_blt Nv hg hm PyProof.Rows.boot_zip (PyProof.Rows.callWith_type1 (thn (ha.run pos pz s τ H _ Nv h) fun uz s1 ⟨vs, H1, Nv1, r1, q1⟩ => ?_) hs hpl))⟩
  obtain ⟨b, rfl, hq, q⟩ := q1
  cases r1 with
  | cons r rr =>
  cases rr with
  | cons r' rr =>
  cases rr
  cases r'
  obtain ⟨t, rfl⟩ := r
  obtain ⟨its, rv, p1, _⟩ := Nv1.list hq
  have ltb : b < s1.heap.objs.size := p1.lt
  refine zip_begins2 (begins_text (Str.ofString "") t) (begins_list b its.toArray) True.intro p1.isList fun h' hz hTI hTO h1 h2 hsz hk => wpAny_pyIter_zip hz ?_
  have hf : ∀ c ∈ [s1.heap.objs.size + 4, s1.heap.objs.size + 2, s1.heap.objs.size + 3, s1.heap.objs.size, s1.heap.objs.size + 1], FpOk X pz H1 c := fun c hc => by
    have hle : s1.heap.objs.size ≤ c := by
      have e' : c = s1.heap.objs.size + 4 ∨ c = s1.heap.objs.size + 2 ∨ c = s1.heap.objs.size + 3 ∨ c = s1.heap.objs.size ∨ c = s1.heap.objs.size + 1 := by simpa using hc
      show (s1.heap.objs.size : Nat) ≤ c
      rcases e' with z | z | z | z | z <;> (have z' : (c : Nat) = _ := z; omega)
    exact Nv1.fpOk hle (Nv1.hok.fresh hle)
  have e0 : strIterType (Str.ofString "") = "str_ascii_iterator" := by
    unfold strIterType
    have e1 : ((Str.ofString "").cps.all fun c => decide (c < 128)) = true := by
      have e2 : (Str.ofString "").cps = #[] := by decide
      rw [e2]; simp
    rw [if_pos e1]
  rw [e0] at h1
  refine ⟨s1.heap.objs.size + 4, _, _, It0 X.K b, H1, rfl, Nv1.kept (t' := s1.toks) hk, turn_zip0 (t := t) (zip_sep2 (fp1 := []) (fp2 := [b]) (fun c hc => nomatch hc) fun c hc => by rw [List.mem_singleton.mp hc]; exact ltb) (Nat.ne_of_lt (Nat.lt_succ_of_lt ltb)), ⟨hz, hTI, hTO, ⟨_, h1, rfl, rfl⟩, ⟨_, h2, rfl, rfl⟩⟩, hf, q⟩
/-- what is never asked -/
theorem pe_nv {X : Cx} {e : Expr} : PE X e (fun _ _ _ => False) := ⟨fun _ _ _ _ _ _ h => h.elim⟩
end TB
namespace TB
open PySem PySem.Spec PyProof.Rows L2
section
variable {P : Program} {w : World} {K : PySem.W.Frag} {mg : Str → Option Value} {base : Heap}

theorem dlenS {σ : L2.St} {H : Hp} {te : TE} {x : Str} (h : DE K te σ H (.str x)) (hz : x.length ≤ 100000) : DE K (tCB (fun xs H Q => ∃ z, xs = [.str z] ∧ z.length ≤ sizeLine ∧ Q (.int z.length) H) (tCons te tNil)) σ H (.int (x.length : Int)) := fun H1 k Q q =>
  h H1 k _ fun v H2 k2 hv => by
    obtain rfl := hv.strI
    exact ⟨x, rfl, Evl.sz_of hz, q _ H2 k2 (.int _)⟩

abbrev nl_fits : List Str := ["shape", "words", "sign", "word"]
theorem sc_fits : FnScope nl_fits ["shape", "words"] (defScope s_fits) := ⟨rfl, rfl, rfl, by decide +kernel, rfl, by decide +kernel, by decide +kernel⟩
def sp_fits (K : PySem.W.Frag) : Sp := fun vs H Q _ => ∃ (b : Addr), vs = [.str "", .ref b] ∧ H b = some (.lst []) ∧ RetV H Q (.bl true)
theorem ok_fits (T : Txt K mg) : FnOk P w K mg base CX0 1 (He.ga K "fits") (fdA K (He.ga K "fits")) ["shape", "words"] (sp_fits K) := by
  refine T.f_fits.ok sc_fits (fun vs H Q E h => ?_) (fun cdv A outer s H vs Q E hr h => ?_)
  · obtain ⟨b, rfl, hb, k⟩ := h
    rfl
  · have nd := sc_fits.nd
    have hu := hr.units
    obtain ⟨b, rfl, hb, k⟩ := h
    refine ⟨_, PSs.nox (pss_cons (ps_if (pt_cmpR op_ne (pe_callB (clLen (K := K) rfl) (by rfl) T.n_len (by decide +kernel) (pa_cons (pv 1) pa_nil)) (pe_callB call_len_str (by rfl) T.n_len (by decide +kernel) (pa_cons (pv 0) pa_nil)) (nomark _)) (pss_one (ps_ret pe_bl)) pss_nil)
      (pss_one (ps_ret (pe_callB (clAll (K := K) rfl rfl) (by rfl) T.n_all (by decide +kernel) (pa_cons (pe_lc (own := [("sign", 2), ("word", 3)]) rfl nd (pi_zip0 (K := K) rfl (by rfl) T.n_zip (pa_cons (pv 0) (pa_cons (pv 1) pa_nil))) (blkOk_by (N := nl_fits) (sc := defScope s_fits) (by decide +kernel)) (fun _ _ _ _ _ => (pgT (K := K) (n := 2) rfl rfl (pgs_cons (pg_name (i := 2) nd rfl (Or.inl rfl)) (pgs_cons (pg_name (i := 3) nd rfl (Or.inl rfl)) pgs_nil)))) (fun _ _ _ _ _ => pts_nil) (fun _ _ _ _ _ => pe_nv)) pa_nil))))), ?_⟩
    refine qif (b := false) (DT.is (dtv (K := K) (dne (K := K) (dlenV (ds := []) rfl (.of hb) .nil) (dlenS (x := "") (dv rfl (.str _)) (by show 0 ≤ 100000; decide)) rfl rfl rfl)) (by decide)) (fun e => nomatch e) (fun _ H1 k1 => ?_)
    show tRet (tCB (rAll K) (tCons (tLc (iZip0 K (tCons (tVar 0) (tCons (tVar 1) tNil))) (gTup K 2 (gCons (gName 2) (gCons (gName 3) gNil))) tYes (fun _ _ _ => False) [2, 3]) tNil)) { nx := fun _ H' => Q V.non H', rt := Q } [some (.str ""), some (.ref b), none, none] H1
    refine sretV (K := K) (d := .bool true) (dall (K := K) (bs := []) (fun H2 k2 Q q => ?_)) rfl (fun H3 k3 => k H3 (k1.trans k3))
    refine ⟨_, rfl, _, rfl, b, rfl, .of (k2.get (k1.get hb)), fun D nD => ⟨fun _ _ H' => H' = upd H2 D (.lst []), ⟨0, rfl⟩, fun i m H' e => .inl ⟨?_, ?_⟩⟩⟩
    · subst e
      exact .of ((Kp.new (l := []) nD).get (k2.get (k1.get hb)))
    · subst e
      exact q D _ [] (.new nD) nD upd_same .nil

end
end TB
namespace TB
open PySem PySem.Spec PyProof.Rows L2
section
variable {P : Program} {w : World} {K : PySem.W.Frag} {mg : Str → Option Value} {base : Heap}

/-- name_of(error), where the error is a Busy -/
def tErr (K : PySem.W.Frag) (i : Nat) (a : Addr) (cls : Value) (d : Option Addr) : TE := fun σ H Q => cls = .ref (He.ga K "Busy") ∧ d = none ∧ σ[i]? = some (some (.ref a)) ∧ ∀ H', Kp [] H H' → Q (.str "Busy") H'
theorem snext {t u : TS} {D : Ends} {σ : L2.St} {H : Hp} {r : VK} {b c : L2.St → Hp → Prop} (h : tSeq t u D σ H) : tNext { nx := tSeq t u D, rt := r, bk := b, ct := c } σ H := h
theorem Sh.up {H H1 : Hp} {z y : Addr} (h : Sh K H z y) (k : Kp [] H H1) : Sh K H1 z y := let ⟨dz, l, a, b⟩ := h; ⟨dz, l, k.get a, b.kp k⟩
theorem roomS {j k : Nat} {A : Around} {v : Option Value} (hr : Room k A) (h : j ≤ k) : L2H.RoomH j (A.mark v) := ⟨(hr.mono h).dp, (hr.mono h).un⟩
theorem peErr {X : Cx} {K : PySem.W.Frag} {i : Nat} {a : Addr} {oe : Obj} {cls : Value} {d : Option Addr} {e : Expr} (hK : X.K = K) (hz : Zc cls d oe) (hf : ∃ vs, oe.data = .fields vs) (h : PE X e (tCall (sp_name K (a, oe)) [] E0 (tCons (tVar i) tNil))) : PE X e (tErr K i a cls d) :=
  ⟨fun pins s σ H Q I ⟨e1, e2, h3, h4⟩ => h.run pins s σ H Q I ⟨_, h3, rfl, by subst e1 e2; exact hz, hf, h4⟩⟩

abbrev nl_S_answer : List Str := ["self", "line", "words", "word", "rest", "numbers", "one", "error"]
theorem sc_S_answer : FnScope nl_S_answer ["self", "line"] (defScope s_S_answer) := ⟨rfl, rfl, rfl, by decide +kernel, rfl, by decide +kernel, by decide +kernel⟩
def sp_answer (K : PySem.W.Frag) : Sp := fun vs H Q _ => ∃ (z y : Addr) (ln : Str) (fu b f : Bool) (n : Nat) (gs : List Pg), vs = [.ref z, .str ln] ∧ Sh K H z y ∧ Yd K H y fu b gs ∧ Gd fu n f gs ∧
  ((ln = "swap" ∧ b = true ∧ RetV H Q (.str "no Busy")) ∨ (ln = "show" ∧ RetV H Q (.str (shT (lastP gs) f))))
theorem ok_S_answer (T : Txt K mg) (B : Tab K w mg) (Y : Yrd K mg) (Xn : Exn K mg) (Sl : Shl K mg) (bm : ∀ fu, BMeth K (kC K fu) "edit" (He.ma K (He.ga K "Yard") "edit")) : FnOk P w K mg base CX0 14 (He.ma K (He.ga K "Shell") "answer") (fdA K (He.ma K (He.ga K "Shell") "answer")) ["self", "line"] (sp_answer K) := by
  refine T.f_S_answer.ok sc_S_answer (fun vs H Q E h => ?_) (fun cdv A outer s H vs Q E hr h => ?_)
  · obtain ⟨z, y, ln, fu, b, f, n, gs, rfl, hz, hy, hg, h⟩ := h
    rfl
  · have nd := sc_S_answer.nd
    have hu := hr.units
    obtain ⟨z, y, ln, fu, b, f, n, gs, rfl, hz, hy, hg, h⟩ := h
    refine ⟨_, PSs.nox (pss_cons (ps_set (i := 2) nd rfl (Or.inl rfl) (pe_split (pv 1) pe_str))
      (pss_cons (ps_par (i := 3) (j := 4) rfl nd rfl rfl (by decide) rfl rfl (pa_cons (pe_ix (ixL (K := K) rfl) (pv 2) pe_int (fun _ _ => rfl)) (pa_cons (pe_slice (slL (K := K) rfl) (pv 2) (po_some pe_int) po_none) pa_nil)) (by rfl))
      (pss_cons (ps_if (pt_cmpR op_eq (pv 3) pe_str (nomark _)) (pss_one ps_never) (pss_one (ps_if (PW.pt (pw_or (pt_cmpR (opKnin (K := K) rfl rfl B.H) (pv 3) (pe_glob (v := .ref (He.ga K "SHAPES")) rfl B.gH rfl) (by rfl)) (pw_or1 (pt_not (pt_val (pe_call (ok_fits (K := K) T) (hr.mono (by decide)) (by rfl) T.g_fits (T.f_fits.kp) (T.b_fits) .nil pass0 (pa_cons (pe_ix (ixKd (K := K) rfl rfl B.H) (pe_glob (v := .ref (He.ga K "SHAPES")) rfl B.gH rfl) (pv 3) (fun _ _ => rfl)) (pa_cons (pv 4) pa_nil)))))))) (pss_one (ps_ret (pe_glob (v := .str "what") rfl T.c_WHAT.choose_spec ⟨_, rfl⟩))) pss_nil)))
      (pss_cons (ps_setLc (i := 5) (own := [("one", 6)]) rfl nd rfl rfl (sw_true rfl rfl rfl (by decide +kernel)) (piL (K := K) rfl (pv 4)) (blkOk_by (N := nl_S_answer) (sc := defScope s_S_answer) (by decide +kernel)) (fun _ _ _ _ _ => (pg_name (i := 6) nd rfl (Or.inl rfl))) (fun _ _ _ _ _ => pts_nil) (fun _ _ _ _ _ => pe_nv))
      (pss_cons (ps_if (PW.pt (pw_and (pt_cmpR op_eq (pv 3) pe_str (nomark _)) (pw_and1 (pt_cmpR op_eq (pe_ix (ixL (K := K) rfl) (pv 5) pe_int (fun _ _ => rfl)) pe_int (nomark _))))) (pss_one (ps_ret (pe_glob (v := .str "what") rfl T.c_WHAT.choose_spec ⟨_, rfl⟩))) pss_nil)
      (pss_one (ps_try_as (i := 7) rfl rfl nd rfl rfl ⟨rfl, by decide, .inl Xn.g_BrickError⟩ takes0 (fun W pz xe tk _ => (pss_one (ps_ret (peMethAt (pv 0) Sl.cl Sl.m_told (raw0 (ok_S_told (K := K) T B Y Sl bm) T.b_S_told) (hr.mono (by decide)) (fun σ => passAt tk σ) (pa_cons (pv 3) (pa_cons (pv 5) pa_nil)))))) (fun a oe cls d pn hz hf => (pss_one (ps_ret (pe_op op_add_str pe_str (peErr (K := K) (i := 7) rfl hz hf (peCallC (E := E0) (p := (a, oe)) (ok_name_of T Xn) (roomS hr (by decide)) (List.mem_cons_self ..) (by rfl) T.g_name_of T.f_name_of.kp T.b_name_of (pa_cons (pv 7) pa_nil)))))))))))))), ?_⟩
    obtain ⟨hsp, u0, e0, r0⟩ : Txt.split ln " " = [ln] ∧ ∃ u, PySem.W.nsIn K (He.ga K "SHAPES") ln = some (some u) ∧ RelV (.str "") u := by
      rcases h with ⟨rfl, _⟩ | ⟨rfl, _⟩
      · obtain ⟨u, a, b⟩ := B.h0
        exact ⟨by decide +kernel, u, a, b⟩
      · obtain ⟨u, a, b⟩ := B.h1
        exact ⟨by decide +kernel, u, a, b⟩
    have hnt : ln ≠ "turn" ∧ ln ≠ "next" := by
      rcases h with ⟨rfl, _⟩ | ⟨rfl, _⟩
      · exact ⟨by decide +kernel, by decide +kernel⟩
      · exact ⟨by decide +kernel, by decide +kernel⟩
    have hsz : ln.length + 2 ≤ 100000 := by
      rcases h with ⟨rfl, _⟩ | ⟨rfl, _⟩
      · decide +kernel
      · decide +kernel
    refine ⟨_, rfl, ⟨ln, rfl⟩, ln, " ", rfl, rfl, by decide, Evl.sz_of hsz, fun p np => ?_⟩
    rw [hsp]
    have kp : Kp [] H (upd H p (.lst ([ln].map V.str))) := .new np
    have hp : (upd H p (.lst ([ln].map V.str))) p = some (.lst [.str ln]) := upd_same
    generalize upd H p (.lst ([ln].map V.str)) = H1 at *
    refine ⟨_, rfl, p, [.str ln], 0, .str ln, rfl, rfl, .of hp, atI_nat (j := 0) rfl, ?_⟩
    refine (dslL (K := K) (ds := [.str ln]) rfl (.of hp) (.cons (.str _) .nil) (dosome (K := K) dint) donone) H1 .refl _ fun r H2 xs k2 nr hr hx2 => ?_
    rw [cut_tail] at hx2
    cases hx2
    refine ⟨_, _, rfl, ?_⟩
    refine qword rfl (fun e => absurd e hnt.1) (fun _ H3 k3 => ?_)
    refine sif (b := false) (DT.is (dtor (b := false) (dtv (K := K) (dkin (K := K) (dv rfl (.str _)) e0)) (fun _ => dtnot (dtB (K := K) (b := true) (fun H5 k5 Q5 q5 => by exact dkix (K := K) (x := .str "") (dv rfl (.str _)) e0 r0 rfl H5 k5 _ fun v H6 k6 hv => ⟨_, rfl, r, by rw [hv.strI]; rfl, k6.get (k5.get (k3.get hr)), fun H7 k7 => q5 _ H7 (k6.trans k7) (.bl _)⟩)))) rfl) (fun e => nomatch e) (fun _ H4 k4 => ?_)
    refine snext ?_
    have hr4 := k4.get (k3.get hr)
    refine qasgL (K := K) (ds := []) (DL.is (dlcV (K := K) (σ := [some (.ref z), some (.str ln), some (.ref p), some (.str ln), some (.ref r), none, none, none]) (vs := [6]) (j := 6) (i0 := 4) (ds := []) (fun _ => true) (fun _ => .none) rfl (.of hr4) .nil (by show 0 ≤ 40000; decide) (fun _ => rfl) (fun i x d _ _ hd _ => by cases hd) (fun i x d _ _ hd _ => by cases hd)) (by simp [gv])) fun nb H5 xs k5 nnb hnb hxs => ?_
    cases hxs
    refine qif (b := false) (DT.is (dtand (a := false) (b := true) (DT.is (dtv (K := K) (deq (K := K) (d := .str ln) (e := .str "next") (dv rfl (.str _)) dstr rfl rfl rfl)) (decide_eq_false fun e => hnt.2 (V.str.inj e))) (fun e => nomatch e)) rfl) (fun e => nomatch e) (fun _ H6 k6 => ?_)
    have kk : Kp [] H H6 := kp.trans (k2.trans (k3.trans (k4.trans (k5.trans k6))))
    obtain ⟨dz, lz, z1, z2⟩ := hz.up kk
    refine ⟨_, rfl, z, dz, _, rfl, z1, rfl, _, rfl, _, rfl, ?_⟩
    refine ⟨z, y, nb, ln, fu, b, f, n, gs, rfl, ⟨dz, lz, z1, z2⟩, hy.up kk, hg, k6.get hnb, ?_⟩
    rcases h with ⟨rfl, rfl, k⟩ | ⟨rfl, k⟩
    · refine .inl ⟨rfl, rfl, fun H7 k7 => ⟨true, Xn.e_BrickError, fun _ a na => ?_, fun e => nomatch e⟩⟩
      refine ⟨rfl, rfl, rfl, fun H8 k8 => ⟨_, _, rfl, rfl, Evl.sz_of (by decide +kernel), ?_⟩⟩
      exact k H8 (kk.trans (k7.trans k8))
    · exact .inr ⟨rfl, fun H7 k7 => k H7 (kk.trans k7)⟩

end
end TB
namespace TB
open PySem PySem.Spec PyProof.Rows L2
section
variable {P : Program} {w : World} {K : PySem.W.Frag} {mg : Str → Option Value} {base : Heap}

theorem qsG {σ : L2.St} {H : Hp} {y dx C : Addr} {fs : List (Str × V)} {f : Str} {i : Nat} {te : TE} {d : PyData} {tz : TS} {D : Ends} (c : Cls K C) (hv : σ[i]? = some (some (.ref y))) (h1 : H y = some (.ins C dx fs)) (na : NoAttr K C f) (hl : fs.length < 1000) (ha : DE K te σ H d)
    (k : ∀ v H1, Kp [] H H1 → Im K H1 v d → tz D σ (upd H1 y (.ins C dx (putF f v fs)))) : tSeq (sFld K (tVar i) te f) tz D σ H := sfG (D := { D with nx := tz D }) c hv h1 na hl ha k

abbrev nl_S_execute : List Str := ["self", "value", "answer"]
theorem sc_S_execute : FnScope nl_S_execute ["self", "value"] (defScope s_S_execute) := ⟨rfl, rfl, rfl, by decide +kernel, rfl, by decide +kernel, by decide +kernel⟩
/-- what the shells are asked, and what they tell -/
def ShP (K : PySem.W.Frag) (H : Hp) (z y : Addr) (ln an : Str) : Prop := ∃ (fu b f : Bool) (n : Nat) (gs : List Pg), Sh K H z y ∧ Yd K H y fu b gs ∧ Gd fu n f gs ∧ ((ln = "swap" ∧ b = true ∧ an = "no Busy") ∨ (ln = "show" ∧ an = shT (lastP gs) f))
def sp_execute (K : PySem.W.Frag) : Sp := fun vs H Q _ => ∃ (z y : Addr) (ln an : Str), vs = [.ref z, .str ln] ∧ ShP K H z y ln an ∧ ∀ H', Kp [z] H H' → Q (.str an) H'
theorem ok_S_execute (T : Txt K mg) (B : Tab K w mg) (Y : Yrd K mg) (Xn : Exn K mg) (Sl : Shl K mg) (bm : ∀ fu, BMeth K (kC K fu) "edit" (He.ma K (He.ga K "Yard") "edit")) : FnOk P w K mg base CX0 15 (He.ma K (He.ga K "Shell") "execute") (fdA K (He.ma K (He.ga K "Shell") "execute")) ["self", "value"] (sp_execute K) := by
  refine T.f_S_execute.ok sc_S_execute (fun vs H Q E h => ?_) (fun cdv A outer s H vs Q E hr h => ?_)
  · obtain ⟨z, y, ln, an, rfl, hz, k⟩ := h
    rfl
  · have nd := sc_S_execute.nd
    have hu := hr.units
    obtain ⟨z, y, ln, an, rfl, hz, k⟩ := h
    refine ⟨_, PSs.nox (pss_cons (ps_set (i := 2) nd rfl (Or.inl rfl) (pe_ifExp (pt_val (pe_callB (clIsi (K := K) rfl) (by rfl) T.n_isinstance (by decide +kernel) (pa_cons (pv 1) (pa_cons (pe_bltn (v := .ty "str") (by rfl) T.n_str (by decide +kernel) rfl) pa_nil)))) (pe_meth (pv 0) Sl.cl Sl.m_answer (ok_S_answer (K := K) T B Y Xn Sl bm) (hr.mono (by decide)) T.b_S_answer .nil pass0 (pa_cons (pv 1) pa_nil)) (pe_glob (v := .str "what") rfl T.c_WHAT.choose_spec ⟨_, rfl⟩)))
      (pss_cons (psFld (K := K) rfl (pv 0) (pe_slice (slA (K := K) rfl) (pe_op (opCatA (K := K) rfl) (peFld (K := K) rfl (pv 0)) (pe_tup (pa_cons (pe_tup (pa_cons (pe_ifExp (pt_val (pe_callB (clIsi (K := K) rfl) (by rfl) T.n_isinstance (by decide +kernel) (pa_cons (pv 1) (pa_cons (pe_bltn (v := .ty "str") (by rfl) T.n_str (by decide +kernel) rfl) pa_nil)))) (pv 1) pe_non) (pa_cons (pv 2) pa_nil))) pa_nil))) (po_some (pe_un un_neg pe_int)) po_none))
      (pss_one (ps_ret (pv 2))))), ?_⟩
    obtain ⟨fu, b, f, n, gs, hs, hy, hg, h⟩ := hz
    refine qasg (K := K) (d := .str an) (dif (b := true) (dtB (K := K) (disi (T := "str") (dv rfl (.str _)) (show kitB "str" "str" = some true by decide +kernel))) (fun _ H1 k1 Q1 q1 => ?_) (fun e => nomatch e)) fun v H1 k1 hv => ?_
    · obtain ⟨dz, lz, z1, z2⟩ := hs.up k1
      refine ⟨_, rfl, z, dz, _, rfl, z1, rfl, _, rfl, z, y, ln, fu, b, f, n, gs, rfl, hs.up k1, hy.up k1, hg, ?_⟩
      rcases h with ⟨rfl, rfl, rfl⟩ | ⟨rfl, rfl⟩
      · exact .inl ⟨rfl, rfl, fun H2 k2 => q1 _ H2 k2 (.str _)⟩
      · exact .inr ⟨rfl, fun H2 k2 => q1 _ H2 k2 (.str _)⟩
    obtain rfl := hv.strI
    obtain ⟨dz, lz, z1, z2⟩ := hs.up k1
    refine qsG (K := K) Sl.cl rfl z1 Sl.aN (by show 2 < 1000; decide) (dslT (K := K) (dcat (ds := []) (es := [.tuple [.str ln, .str an]]) (fun H2 k2 Q2 q2 => ⟨_, rfl, z, _, dz, _, .ref lz, rfl, k2.get z1, Sl.cl, Sl.aN, rfl, q2 _ H2 .refl (z2.kp k2)⟩)
      (dtup (dacons (dtup (dacons (dif (b := true) (dtB (K := K) (disi (T := "str") (dv rfl (.str _)) (show kitB "str" "str" = some true by decide +kernel))) (fun _ => dv rfl (.str _)) (fun e => nomatch e)) (dacons (dv rfl (.str _)) danil))) danil)) (by show 0 + 1 ≤ 100000; decide)) (dosome (K := K) (dneg dint)) donone) fun w H2 k2 hw => ?_
    refine sretV (K := K) (d := .str an) (dv rfl (.str _)) rfl fun H3 k3 => ?_
    exact k H3 (k1.up.trans (k2.up.trans ((Kp.wi (k2.get z1) (by simp)).trans k3.up)))

abbrev nl_S_call : List Str := ["self", "value"]
theorem sc_S_call : FnScope nl_S_call ["self", "value"] (defScope s_S_call) := ⟨rfl, rfl, rfl, by decide +kernel, rfl, by decide +kernel, by decide +kernel⟩
def sp_S_call (K : PySem.W.Frag) : Sp := sp_execute K
theorem ok_S_call (T : Txt K mg) (B : Tab K w mg) (Y : Yrd K mg) (Xn : Exn K mg) (Sl : Shl K mg) (bm : ∀ fu, BMeth K (kC K fu) "edit" (He.ma K (He.ga K "Yard") "edit")) : FnOk P w K mg base CX0 16 (He.ma K (He.ga K "Shell") "__call__") (fdA K (He.ma K (He.ga K "Shell") "__call__")) ["self", "value"] (sp_S_call K) := by
  refine T.f_S_call.ok sc_S_call (fun vs H Q E h => ?_) (fun cdv A outer s H vs Q E hr h => ?_)
  · obtain ⟨z, y, ln, an, rfl, hz, k⟩ := h
    rfl
  · have nd := sc_S_call.nd
    have hu := hr.units
    obtain ⟨z, y, ln, an, rfl, hz, k⟩ := h
    refine ⟨_, PSs.nox (pss_one (ps_ret (pe_meth (pv 0) Sl.cl Sl.m_execute (ok_S_execute (K := K) T B Y Xn Sl bm) (hr.mono (by decide)) T.b_S_execute .nil pass0 (pa_cons (pv 1) pa_nil)))), ?_⟩
    obtain ⟨fu, b, f, n, gs, hs, hy, hg, h⟩ := hz
    obtain ⟨dz, lz, z1, z2⟩ := hs
    exact ⟨_, rfl, z, dz, _, rfl, z1, rfl, _, rfl, z, y, ln, an, rfl, ⟨fu, b, f, n, gs, ⟨dz, lz, z1, z2⟩, hy, hg, h⟩, k⟩

end
end TB
/-! o[i] = v and o += v by the class's own defs, in a try -/
namespace TB
open PySem PySem.Spec PyProof.Rows L2
section
variable {X : Cx} {CX : CXT} {k : Nat} {C f : Addr} {sp : Sp} {E : L2.St → XK} {o i e : Expr} {to ti te : TE} {pos pos' : Pos} {x : Str} {n : Nat}
theorem At1.of (F : FnR X.prog X.w X.K X.mg X.base CX k f sp) (hr : Room k X.A) : At1 X CX f sp := fun s H us xs Q E _ e r h => F X.A X.stack s H us xs Q E hr e r h
def gSetAt (C : Addr) (sp : Sp) (E : L2.St → XK) (to ti : TE) : TG := fun v σ H Q => to σ H fun o H1 => ti σ H1 fun i H2 => ∃ a dx fs, o = .ref a ∧ H2 a = some (.ins C dx fs) ∧ sp [.ref a, i, v] H2 (fun _ H' => Q σ H') (E σ)
theorem pgSetAt (ho : PE X o to) (hi : PE X i ti) (G : At1 X CX f sp) (hx : ∀ σ, PassesAt CX X σ (E σ)) (ow : Own X.K C "__setitem__" f) (hq : PySem.W.noSeq X.K C = true)
    (ha : ∀ v, assign (.Subscript o i pos) X.env v = (do let ov ← holding [v] (eval o X.env); let iv ← holding [v, ov] (eval i X.env); standAt pos; holding [v, ov, iv] (setItem ov iv v); release [v, ov, iv] []) := by intro _; rfl) :
    PG X (.Subscript o i pos) (gSetAt C sp E to ti) := by
  constructor
  intro pins s σ H v u Q I r h
  rw [ha]
  apply wpAny_bind
  apply wpAny_holding
  refine thn (ho.run pins s σ H _ I h) fun ov s1 hz1 => ?_
  obtain ⟨y1, H1, I1, r1, q1⟩ := hz1
  apply wpAny_bind
  apply wpAny_holding
  refine thn (hi.run pins s1 σ H1 _ I1 q1) fun iv s2 hz2 => ?_
  obtain ⟨y2, H2, I2, r2, a, dx, fs, e0, ea, q2⟩ := hz2
  subst e0
  cases r1
  obtain ⟨od, J⟩ := inst_of I2 ea
  obtain ⟨m, hF⟩ : ∃ m, Fr X.base X.env.locals s2.heap m := I2.fr
  apply wpAny_bind
  apply wpAny_standAt
  apply wpAny_bind
  apply wpAny_holding
  refine PySem.W.ksp_setItem hF I2.ok.mod.kin J hq ow.at_ ow.fn (wpAny_mono (run_1 (xs := [V.ref a, y2, v]) G (hx σ) I2 (.cons rfl (.cons r2 (.cons r .nil))) q2) (fun v' s' q => ?_) fun _ _ z => z)
  obtain ⟨_, H', I', _, q⟩ := q
  exact wpAny_release ⟨σ, H', I', q⟩
def tAugAt (n : Nat) (C : Addr) (sp : Sp) (E : L2.St → XK) (te : TE) : TS := fun D σ H => ∃ a dx fs, σ[n]? = some (some (.ref a)) ∧ te σ H fun y H1 => H1 a = some (.ins C dx fs) ∧ sp [.ref a, y] H1 (fun r H2 => (∃ b, r = .ref b) ∧ D.nx (σ.set n (some r)) H2) (E σ)
theorem psAugAt (hN : X.N.Nodup) (hi : X.N[n]? = some x) (hl : X.env.scope.names.lookup x = some .local) (he : PE X e te) (G : At1 X CX f sp) (hx : ∀ σ, PassesAt CX X σ (E σ)) (ow : Own X.K C "__iadd__" f) (hc : PySem.W.selfFirst X.K C = true) :
    PS X (.AugAssign (.Name x pos') .Add e pos) (tAugAt n C sp E te) := by
  constructor
  intro pins s σ H D I h
  obtain ⟨a, dx, fs, e1, h⟩ := h
  obtain ⟨m, hn, hls⟩ := I.loc
  obtain ⟨u, r, l⟩ := hls n x _ hi e1 (.inl hl)
  cases r
  apply wpAny_AugAssign_Name
  rcases l with ⟨hk, hm⟩ | ⟨hk, _⟩
  · refine wpAny_loadName_local I.ok.kind hk hn hm ?_
    refine thn (he.run pins s σ H _ I h) fun w1 s1 hz1 => ?_
    obtain ⟨y, H1, I1, r1, ea, q1⟩ := hz1
    obtain ⟨od, J⟩ := inst_of I1 ea
    obtain ⟨m1, hF⟩ : ∃ m, Fr X.base X.env.locals s1.heap m := I1.fr
    refine PySem.W.ksp_inplace (op := .Add) hF I1.ok.mod.kin J hc ow.at_ ow.fn (wpAny_mono (run_1 (xs := [V.ref a, y]) G (hx σ) I1 (.cons rfl (.cons r1 .nil)) q1) (fun v s' q => ?_) fun _ _ z => z)
    obtain ⟨v', H', I', rv, ⟨b, eb⟩, q⟩ := q
    subst eb
    cases rv
    exact store_ok I' hN hi (.inl hl) (show L2.RelV (.ref b) (.ref b) from rfl) (fun s3 I3 => ⟨_, H', I3, q⟩) (.inr hl)
  · rcases hk with hk | hk
    · have hk' : X.env.scope.names.lookup x = some .cell := hk
      rw [hl] at hk'
      cases hk'
    · have hk' : X.env.scope.names.lookup x = some .free := hk
      rw [hl] at hk'
      cases hk'
end
end TB
/-! attempt and state_at: how their keywords are bound -/
namespace TB
open PySem PySem.Spec PyProof.Rows L2
variable {K : PySem.W.Frag} {mg : Str → Option Value}
theorem Txt.b_at (T : Txt K mg) : ∃ ds, Vals [V.non] ds ∧ Binds K (fdA K (He.ma K (He.ga K "Yard") "attempt")) ["self", "batch", "on_step"] ds :=
  T.f_Y_attempt.binds0 2 (by simp) rfl fun D doc pm an cdv ct us ks l1 l2 => match us, ks, l1, l2 with | [_, _], [_], _, _ => ⟨_, _, _, _, _, _, rfl, rfl, rfl⟩
theorem Txt.b_st (T : Txt K mg) : ∃ ds, Vals [V.non] ds ∧ Binds K (fdA K (He.ma K (He.ga K "Yard") "state_at")) ["self", "version"] ds :=
  T.f_Y_state_at.binds0 1 (by simp) rfl fun D doc pm an cdv ct us ks l1 l2 => match us, ks, l1, l2 with | [_], [_], _, _ => ⟨_, _, _, _, _, _, rfl, rfl, rfl⟩
theorem Txt.kb_at (T : Txt K mg) : ∃ g, KBn K (fdA K (He.ma K (He.ga K "Yard") "attempt")) ["self", "batch", "on_step"] 2 ["on_step"] g (fun vs zs => vs ++ zs) := by
  obtain ⟨mv, h⟩ := T.f_Y_attempt.kbinds0 (ps := ["self", "batch", "on_step"]) 2 ["on_step"] [] (fun vs _ zs => vs ++ zs) (by simp) (by simp) (fun r1 _ r3 => r1.append r3)
    fun D doc pm an cdv ct us mv ws l1 l2 l3 => match us, ws, l1, l3 with | [_, _], [_], _, _ => rfl
  exact ⟨_, h⟩
theorem Txt.kb_st (T : Txt K mg) : ∃ g, KBn K (fdA K (He.ma K (He.ga K "Yard") "state_at")) ["self", "version"] 1 ["version"] g (fun vs zs => vs ++ zs) := by
  obtain ⟨mv, h⟩ := T.f_Y_state_at.kbinds0 (ps := ["self", "version"]) 1 ["version"] [] (fun vs _ zs => vs ++ zs) (by simp) (by simp) (fun r1 _ r3 => r1.append r3)
    fun D doc pm an cdv ct us mv ws l1 l2 l3 => match us, ws, l1, l3 with | [_], [_], _, _ => rfl
  exact ⟨_, h⟩
/-- attempt(batch) -/
theorem Txt.at1 (T : Txt K mg) {P : Program} {w : World} {base : Heap} {CX : CXT} {k : Nat} {sp : Sp} (F : FnOk P w K mg base CX k (He.ma K (He.ga K "Yard") "attempt") (fdA K (He.ma K (He.ga K "Yard") "attempt")) ["self", "batch", "on_step"] sp) :
    FnR P w K mg base CX k (He.ma K (He.ga K "Yard") "attempt") (fun vs H Q E => sp (vs ++ [.non]) H Q E) := by
  obtain ⟨ds, h1, h2⟩ := T.b_at
  exact F.raw h2 h1
/-- state_at() -/
theorem Txt.st1 (T : Txt K mg) {P : Program} {w : World} {base : Heap} {CX : CXT} {k : Nat} {sp : Sp} (F : FnOk P w K mg base CX k (He.ma K (He.ga K "Yard") "state_at") (fdA K (He.ma K (He.ga K "Yard") "state_at")) ["self", "version"] sp) :
    FnR P w K mg base CX k (He.ma K (He.ga K "Yard") "state_at") (fun vs H Q E => sp (vs ++ [.non]) H Q E) := by
  obtain ⟨ds, h1, h2⟩ := T.b_st
  exact F.raw h2 h1
end TB
namespace TB
open PySem PySem.Spec PyProof.Rows L2
section
variable {P : Program} {w : World} {K : PySem.W.Frag} {mg : Str → Option Value} {base : Heap}

theorem sway {σ : L2.St} {H : Hp} {i : Nat} {x a : Int} {tu tw : TS} {D : Ends} (hv : σ[i]? = some (some (.int x))) (h1 : x = a → ∀ H1, Kp [] H H1 → tu D σ H1) (h2 : x ≠ a → ∀ H1, Kp [] H H1 → tw D σ H1) : tIfS (tTest (tOp rEq (tVar i) (tC (.int a)))) tu tw D σ H :=
  sif (b := decide (x = a)) (DT.is (dtv (deq (K := default) (d := .int x) (e := .int a) (dv hv (.int _)) dint rfl rfl rfl)) (by simp)) (fun e => h1 (of_decide_eq_true e)) (fun e => h2 (of_decide_eq_false e))
theorem yl_att (b : Bool) (pa la : Addr) : (yF b pa la).lookup ("attempt" : Str) = none := rfl
/-- no steps are told of -/
theorem nostep {P : Program} {w : World} {K : PySem.W.Frag} {mg : Str → Option Value} {base : Heap} {lf : Addr} : FnR P w K mg base (L2.CX P w) 0 lf (fun _ _ _ _ => False) := fun _ _ _ _ _ _ _ _ _ _ _ h => h.elim
theorem qway {σ : L2.St} {H : Hp} {i : Nat} {x a : Int} {tu tw tz : TS} {D : Ends} (hv : σ[i]? = some (some (.int x))) (h1 : x = a → ∀ H1, Kp [] H H1 → tu { D with nx := tz D } σ H1) (h2 : x ≠ a → ∀ H1, Kp [] H H1 → tw { D with nx := tz D } σ H1) : tSeq (tIfS (tTest (tOp rEq (tVar i) (tC (.int a)))) tu tw) tz D σ H :=
  sway (D := { D with nx := tz D }) hv h1 h2
theorem qcp {i j : Nat} {v : V} {tz : TS} {D : Ends} {σ : L2.St} {H : Hp} (hv : σ[i]? = some (some v)) (h : tz D (σ.set j (some v)) H) : tSeq (tAsg (tVar i) (gName j)) tz D σ H := ⟨v, hv, h⟩
/-- the edits that a busy yard is asked for, by number -/
abbrev edl : List PyData := [.tuple [.str "undo"], .tuple [.str "swap"], .tuple [.str "side", .int 99, .int 0], .tuple [.str "brick", .int 9, .int 9, .int 0], .tuple [.str "turn", .none]]
theorem dEdl {σ : L2.St} {H : Hp} : DL K (tLst (tCons (tTup (tCons (tC (V.str "undo")) tNil)) (tCons (tTup (tCons (tC (V.str "swap")) tNil)) (tCons (tTup (tCons (tC (V.str "side")) (tCons (tC (V.int 99)) (tCons (tC (V.int 0)) tNil)))) (tCons (tTup (tCons (tC (V.str "brick")) (tCons (tC (V.int 9)) (tCons (tC (V.int 9)) (tCons (tC (V.int 0)) tNil))))) (tCons (tTup (tCons (tC (V.str "turn")) (tCons (tC V.non) tNil))) tNil)))))) σ H edl :=
  dlst (K := K) (ds := edl) (dacons (dtup (dacons dstr danil)) (dacons (dtup (dacons dstr danil)) (dacons (dtup (dacons dstr (dacons dint (dacons dint danil)))) (dacons (dtup (dacons dstr (dacons dint (dacons dint (dacons dint danil))))) (dacons (dtup (dacons dstr (dacons dnon danil))) danil))))) (by show 5 ≤ 100000; decide)
theorem dDone {σ : L2.St} {H : Hp} {i j : Nat} {y : Addr} {tl ti : TE} {fu : Bool} {gs : List Pg} {e : PyData} (hv : σ[i]? = some (some (.ref y))) (hy : Yd K H y fu true gs) (hl : DL K tl σ H edl) (hi : DE K ti σ H (.int (j : Int))) (he : edl[j]? = some e) (hed : e = .tuple [.str "undo"] ∨ ∃ n, n ≤ 3 ∧ e = bzD n) :
    DL K (tCall (sp_law_done K) [] E0 (tCons (tVar i) (tCons (tOp (rIxL K) tl ti) tNil))) σ H [.str "Busy"] := fun H5 k5 Q5 q5 => ⟨_, hv, hl H5 k5 _ fun p H6 xs k6 np hp hx => hi H6 (k5.trans k6) _ fun w H7 k7 hw => by
    obtain rfl := hw.intI
    obtain ⟨v, hv, iv⟩ := hx.get he
    exact ⟨p, xs, j, v, rfl, rfl, .of (k7.get hp), atI_nat hv, y, v, fu, gs, e, rfl, hed, iv.kp k7, hy.up (k5.trans (k6.trans k7)), fun p' H8 ys k8 np' hp' hys => q5 p' H8 ys (k6.trans (k7.trans k8)) ((k6.trans k7).free np') hp' hys⟩⟩
theorem shBusy : SeqAt.shaped (.list [.str "Busy"]) = true := by simp [SeqAt.shaped, PyData.canLay0, PyData.canLayAll0, PyData.depth, PyData.depthAll]; decide +kernel
theorem eqBusy : PyData.bool (PyData.eqv (.list [.str "Busy"]) (.list [.str "Busy"])) = .bool true := by rw [SeqAt.eqv_refl_plain _ (by simp [PyData.plain, PyData.plainAll])]
theorem qtry {t u : Ends → TS} {v : TS} {D : Ends} {σ : L2.St} {H : Hp} (h : tSeq (t { D with nx := v D }) (u { D with nx := v D }) { D with nx := v D } σ H) : tSeq (fun D σ H => tSeq (t D) (u D) D σ H) v D σ H := h

abbrev nl_law_is_busy : List Str := ["_law_yard", "_law_way", "_law_held", "_law_found"]
theorem sc_law_is_busy : FnScope nl_law_is_busy ["_law_yard", "_law_way"] (defScope s_law_is_busy) := ⟨rfl, rfl, rfl, by decide +kernel, rfl, by decide +kernel, by decide +kernel⟩
def sp_is_busy (K : PySem.W.Frag) : Sp := fun vs H Q _ => ∃ (y : Addr) (x : Int) (fu : Bool) (gs : List Pg), vs = [.ref y, .int x] ∧ 0 ≤ x ∧ x < 9 ∧ Yd K H y fu true gs ∧ RetV H Q (.bl true)
theorem ok_law_is_busy (T : Txt K mg) (B : Tab K w mg) (Y : Yrd K mg) (Xn : Exn K mg) (F0 : FuncData) : FnOk P w K mg base CX0 14 (He.ga K "_law_is_busy") (fdA K (He.ga K "_law_is_busy")) ["_law_yard", "_law_way"] (sp_is_busy K) := by
  refine T.f_law_is_busy.ok sc_law_is_busy (fun vs H Q E h => ?_) (fun cdv A outer s H vs Q E hr h => ?_)
  · obtain ⟨y, x, fu, gs, rfl, x0, x9, hy, k⟩ := h
    rfl
  · have nd := sc_law_is_busy.nd
    have hu := hr.units
    obtain ⟨y, x, fu, gs, rfl, x0, x9, hy, k⟩ := h
    refine ⟨_, PSs.nox (pss_cons (ps_set (i := 2) nd rfl (Or.inl rfl) (pv 0))
      (pss_cons (ps_try_only rfl rfl ⟨rfl, by decide, .inl Xn.g_Busy⟩ takes0 (fun W pz xe tk _ => (pss_cons (ps_if (pt_cmpR op_eq (pv 1) pe_int (nomark _)) (pss_one (ps_asg pe_non (pgSetAt (pv 2) pe_int (At1.of (raw0 (ok_Y_setitem (K := K) T B Y) T.b_Y_setitem) (hr.mono (by decide))) (fun σ => passAt tk σ) (Y.kl fu).o_setitem (Y.kl fu).nq))) (pss_one (ps_if (pt_cmpR op_eq (pv 1) pe_int (nomark _)) (pss_one (psAugAt (n := 2) nd rfl rfl pe_non (At1.of (raw0 (ok_Y_iadd (K := K) T B Y) T.b_Y_iadd) (hr.mono (by decide))) (fun σ => passAt tk σ) (Y.kl fu).o_iadd (Y.kl fu).sf)) (pss_one (ps_if (pt_cmpR op_eq (pv 1) pe_int (nomark _)) (pss_one (ps_expr (peMethAt (pv 0) (Y.kl fu).cl (Y.kl fu).m_attempt (T.at1 (ok_Y_attempt (K := K) (sps := fun _ _ _ _ => False) T B Y 0 0 F0 nostep)) (hr.mono (by decide)) (fun σ => passAt tk σ) (pa_cons pe_non pa_nil)))) (pss_one (ps_if (pt_cmpR op_eq (pv 1) pe_int (nomark _)) (pss_one (ps_expr (peMethAt (pv 0) (Y.kl fu).cl (Y.kl fu).m_attempt (T.at1 (ok_Y_attempt (K := K) (sps := fun _ _ _ _ => False) T B Y 0 0 F0 nostep)) (hr.mono (by decide)) (fun σ => passAt tk σ) (pa_cons (pe_lst pa_nil) pa_nil)))) (pss_one (ps_ret (pe_cmpR (opEqD (K := K) rfl hu) (pe_call (ok_law_done (K := K) T B Y Xn) (hr.mono (by decide)) (by rfl) T.g_law_done (T.f_law_done.kp) (T.b_law_done) .nil pass0 (pa_cons (pv 0) (pa_cons (pe_ix (ixL (K := K) rfl) (pe_lst (pa_cons (pe_tup (pa_cons pe_str pa_nil)) (pa_cons (pe_tup (pa_cons pe_str pa_nil)) (pa_cons (pe_tup (pa_cons pe_str (pa_cons pe_int (pa_cons pe_int pa_nil)))) (pa_cons (pe_tup (pa_cons pe_str (pa_cons pe_int (pa_cons pe_int (pa_cons pe_int pa_nil))))) (pa_cons (pe_tup (pa_cons pe_str (pa_cons pe_non pa_nil))) pa_nil)))))) (pe_op op_sub (pv 1) pe_int) (fun _ _ => rfl)) pa_nil))) (pe_lst (pa_cons pe_str pa_nil)) (nomark _)))))))))))
      (pss_one (ps_set (i := 3) nd rfl (Or.inl rfl) pe_bl)))) (fun a oe cls d pn hz hf => (pss_one (ps_set (i := 3) nd rfl (Or.inl rfl) pe_bl))))
      (pss_one (ps_ret (pv 3))))), ?_⟩
    have hit : ∀ H1, Kp [] H H1 → wOnly K (.ref (He.ga K "Busy")) (fun a cls d => tAsg (tC (.bl true)) (gName 3)) (fun _ _ _ _ => False) { nx := fun σ' H' => tRet (tVar 3) { nx := fun _ H' => Q V.non H', rt := Q } σ' H', rt := Q } (.ref (He.ga K "Busy")) none [some (.ref y), some (.int x), some (.ref y), none] H1 :=
      fun H1 k1 => ⟨true, Xn.e_Busy, fun _ a na => ⟨_, rfl, k H1 k1⟩, fun e => nomatch e⟩
    refine qcp rfl ?_
    refine qtry ?_
    refine qway rfl (fun e H1 k1 => ?_) (fun e0 H1 k1 => ?_)
    · obtain ⟨dx, pa, la, h1, h2, h3⟩ := hy.up k1
      exact ⟨_, rfl, y, dx, _, rfl, h1, y, .int 0, .non, fu, gs, rfl, hy.up k1, fun H' k' => hit H' (k1.trans k')⟩
    refine sway rfl (fun e H2 k2 => ?_) (fun e1 H2 k2 => ?_)
    · have kk := k1.trans k2
      obtain ⟨dx, pa, la, h1, h2, h3⟩ := hy.up kk
      exact ⟨y, dx, _, rfl, h1, y, .non, fu, gs, rfl, hy.up kk, fun H' k' => hit H' (kk.trans k')⟩
    refine sway rfl (fun e H3 k3 => ?_) (fun e2 H3 k3 => ?_)
    · have kk := k1.trans (k2.trans k3)
      obtain ⟨dx, pa, la, h1, h2, h3⟩ := hy.up kk
      exact ⟨_, rfl, y, dx, _, rfl, h1, yl_att _ _ _, y, .non, .non, fu, true, gs, rfl, hy.up kk, (fun _ H' k' => hit H' (kk.trans k')), (fun e => nomatch e)⟩
    refine sway rfl (fun e H4 k4 => ?_) (fun e3 H4 k4 => ?_)
    · have kk := k1.trans (k2.trans (k3.trans k4))
      obtain ⟨dx, pa, la, h1, h2, h3⟩ := hy.up kk
      refine ⟨_, rfl, y, dx, _, rfl, h1, yl_att _ _ _, Evl.sz_of (by simp), fun p np => ?_⟩
      have k5 := kk.trans (.new (o := .lst []) np)
      exact ⟨y, .ref p, .non, fu, true, gs, rfl, hy.up k5, (fun _ H' k' => hit H' (k5.trans k')), (fun e => nomatch e)⟩
    obtain ⟨j, hj⟩ := Int.eq_ofNat_of_zero_le (show 0 ≤ x - 4 by omega)
    have hj5 : j < 5 := by omega
    have kk := k1.trans (k2.trans (k3.trans k4))
    obtain ⟨e, he, hed⟩ : ∃ e, edl[j]? = some e ∧ (e = .tuple [.str "undo"] ∨ ∃ n, n ≤ 3 ∧ e = bzD n) := by
      obtain rfl | rfl | rfl | rfl | rfl : j = 0 ∨ j = 1 ∨ j = 2 ∨ j = 3 ∨ j = 4 := by omega
      · exact ⟨_, rfl, .inl rfl⟩
      · exact ⟨_, rfl, .inr ⟨0, by decide, rfl⟩⟩
      · exact ⟨_, rfl, .inr ⟨1, by decide, rfl⟩⟩
      · exact ⟨_, rfl, .inr ⟨2, by decide, rfl⟩⟩
      · exact ⟨_, rfl, .inr ⟨3, by decide, rfl⟩⟩
    have hy4 := hy.up kk
    have hi : DE K (tOp (rI0 fun i j => V.int (i - j)) (tVar 1) (tC (V.int 4))) [some (.ref y), some (.int x), some (.ref y), none] H4 (.int (j : Int)) := DE.is (dI0 (dv rfl (.int x)) dint) (by rw [hj])
    have hd := dDone (i := 0) (σ := [some (.ref y), some (.int x), some (.ref y), none]) rfl hy4 dEdl hi he hed
    have hres := DE.is (dEL (K := K) (ds := [.str "Busy"]) (es := [.str "Busy"]) hd (dlst (dacons dstr danil)) shBusy shBusy) (e := .bool true) eqBusy
    exact sretV (K := K) (d := .bool true) hres rfl fun H9 k9 => k H9 (kk.trans k9)

end
end TB
/-! what the law asks a yard and its copies -/
namespace TB
open PySem PySem.Spec PyProof.Rows L2
section
variable {P : Program} {w : World} {K : PySem.W.Frag} {mg : Str → Option Value} {base : Heap} {σ : L2.St} {H H1 : Hp} {i j : Nat} {y : Addr} {fu b f : Bool} {n : Nat} {gs : List Pg} {E : XK} {Q : VK}
theorem dNE {ta tb : TE} {d e : PyData} (ha : DE K ta σ H d) (hb : DE K tb σ H e) (s1 : SeqAt.shaped d = true) (s2 : SeqAt.shaped e = true) : DE K (tOp (rNeD K) ta tb) σ H (.bool (!PyData.eqv d e)) := fun H1 k Q q =>
  ha H1 k _ fun v H2 k2 h2 => hb H2 (k.trans k2) _ fun w H3 k3 h3 => ⟨d, e, (h2.kp k3).dp, h3.dp, s1, s2, q _ H3 (k2.trans k3) (.bl _)⟩
theorem dp_page (g : Pg) : (pageD g).depth ≤ 60 := by
  have h0 : ∀ l : List Int, PyData.depthAll (l.map PyData.int) = 0 := fun l => by
    induction l with
    | nil => rfl
    | cons a r ih => simp [PyData.depthAll, PyData.depth, ih]
  simp [pageD, pairD, tI, PyData.depth, PyData.depthAll, h0]
theorem sh_page (g : Pg) : SeqAt.shaped (pageD g) = true := by
  unfold SeqAt.shaped
  rw [can_page, Bool.true_and]
  exact decide_eq_true (Nat.le_trans (dp_page g) (by decide))
theorem sh_pages (gs : List Pg) : SeqAt.shaped (.list (gs.map pageD)) = true := shaped_list fun d hd => by
  obtain ⟨g, _, rfl⟩ := List.mem_map.mp hd
  exact ⟨can_page g, dp_page g⟩
theorem eq_page (g : Pg) : PyData.eqv (pageD g) (pageD g) = true := SeqAt.eqv_refl_plain _ (plain_page g)
theorem plain_all (gs : List Pg) : PyData.plainAll (gs.map pageD) = true := by
  induction gs with
  | nil => rfl
  | cons g r ih => simp [PyData.plainAll, plain_page, ih]
theorem eq_pages (gs : List Pg) : PyData.eqv (.list (gs.map pageD)) (.list (gs.map pageD)) = true := SeqAt.eqv_refl_plain _ (by simp [PyData.plain, plain_all])
theorem dShows (hv : σ[i]? = some (some (.ref y))) (h : Yd K H y fu b gs) (hg : Gd fu n f gs) : DE K (tCall (sp_law_shows K) [] E (tCons (tVar i) tNil)) σ H (.str (PyData.list (shL (lastP gs) gs.length n f)).shown) := fun H1 k Q q =>
  ⟨_, hv, y, fu, b, f, n, gs, rfl, h.up k, hg, fun H2 k2 => q _ H2 k2 (.str _)⟩
theorem yl_state (b : Bool) (pa la : Addr) : (yF b pa la).lookup ("state_at" : Str) = none := rfl
theorem yl_copy (b : Bool) (pa la : Addr) : (yF b pa la).lookup ("copy" : Str) = none := rfl
theorem yl_each (b : Bool) (pa la : Addr) : (yF b pa la).lookup ("each_version" : Str) = none := rfl
theorem dState {g : Pg} {tj : TE} (hv : σ[i]? = some (some (.ref y))) (h : Yd K H y fu b gs) (hj : DE K tj σ H (.int (j : Int))) (e : gs[j]? = some g) : DE K (tMethN (kC K fu) "state_at" 1 [("version" : Str)].length (sp_state_at K) (fun vs zs => vs ++ zs) (fun _ => E) (tVar i) tNil (tCons tj tNil)) σ H (pageD g) := fun H1 k Q q => by
  have h0 := h
  obtain ⟨dx, pa, la, h1, h2, h3⟩ := h
  refine ⟨_, hv, y, dx, _, rfl, k.get h1, yl_state _ _ _, hj H1 k _ fun v H2 k2 hv => ?_⟩
  obtain rfl := hv.intI
  refine ⟨rfl, rfl, y, .int (j : Int), fu, b, gs, rfl, h0.up (k.trans k2), ?_, .inr ⟨j, g, rfl, e, fun u H3 k3 hu => q u H3 (k2.trans k3) hu⟩⟩
  rintro rfl
  cases e
theorem dEqG {p q : Addr} {b2 : Bool} {hs : List Pg} {i2 : Nat} (hp : σ[i]? = some (some (.ref p))) (hq : σ[i2]? = some (some (.ref q))) (h1 : Yd K H p fu b gs) (h2 : Yd K H q fu b2 hs) (e : lastP gs = lastP hs) : DE K (tOp (rEqG (DIns (kC K fu) (Alike K))) (tVar i) (tVar i2)) σ H (.bool true) := fun H1 k Q c => by
  have a1 := h1.up k
  have a2 := h2.up k
  obtain ⟨dx, pa, la, b1, _, _⟩ := id a1
  obtain ⟨dy, pb, lb, c1, _, _⟩ := id a2
  exact ⟨_, hp, _, hq, ⟨p, q, dx, dy, _, _, rfl, rfl, b1, c1, fu, b, b2, gs, hs, a1, a2, e⟩, fun H' x => c _ H' (.ofExt x) (.bl _)⟩
theorem EdP.go (hg : Gd fu n f gs) (hl : gs.length < 20) (k : ∀ H', Kp [y] H H' → Yd K H' y fu false (app1 gs none) → Q (.int (gs.length : Int)) H') : EdP K H Q E y fu false gs (.str "swap") [] := ⟨fun e => (nomatch e), fun _ => ⟨f, n, none, rfl, .nil, hg, trivial, hl, k⟩⟩
theorem UnP.go (hg : Gd fu n f gs) (hl : 2 ≤ gs.length) (k : ∀ H', Kp [y] H H' → Yd K H' y fu false gs.dropLast → Q (.int ((gs.length : Int) - 2)) H') : UnP K H Q E y fu false gs := ⟨fun e => (nomatch e), fun _ => ⟨f, n, hg, hl, k⟩⟩
theorem drop_app (gs : List Pg) (o : Option (List Int)) : (app1 gs o).dropLast = gs := by unfold app1; exact List.dropLast_concat
theorem ln_app1 (gs : List Pg) (o : Option (List Int)) : (app1 gs o).length = gs.length + 1 := by simp [app1]
/-- an attempt of one swap -/
theorem spAtt1 {lf p : Addr} {F : FuncData} {sps : Sp} {xs : List V} (hy : Yd K H y fu false gs) (hg : Gd fu n f gs) (hl : gs.length < 20) (hp : H p = some (.lst xs)) (hx : ImAll K H xs [.tuple [.str "swap"]]) (q : ∀ H', Kp [y] H H' → Yd K H' y fu false (app1 gs none) → Q (.int (gs.length : Int)) H') :
    sp_attempt K lf F sps [.ref y, .ref p, .non] H Q E := by
  refine ⟨y, .ref p, .non, fu, false, gs, rfl, hy, (fun e => (nomatch e)), fun _ => ⟨p, xs, f, n, [none], [y], (fun i H' => Kp [y] H H' ∧ Yd K H' y fu true (appN gs (([none] : List (Option (List Int))).take i))), (fun _ _ _ => False), rfl, hp, hx, hg, ?_, by decide, ?_, by simp, .inl rfl, ?_, ?_, ?_, ?_, ?_, ?_⟩⟩
  · intro o ho
    obtain rfl := List.mem_singleton.mp ho
    trivial
  · simp; omega
  · exact fun H0 k h0 => ⟨k, h0⟩
  · exact fun i H' h => h
  · exact fun i H' H2 h k => ⟨h.1.trans k.up, h.2.up k⟩
  · exact fun i H1 hi h H2 k h2 => ⟨fun _ => ⟨h.1.trans k, h2⟩, fun e => nomatch e⟩
  · exact fun cls d H3 h => h.elim
  · intro H1 h H' k h'
    have e : (gs.length : Int) + (([none] : List (Option (List Int))).length : Int) - 1 = (gs.length : Int) := by simp
    rw [e]
    exact q H' (h.1.trans k) h'
/-- the two are the same -/
theorem neSame {a c : V} {Qb : Bool → Hp → Prop} (e : a = c) (hs : scal a c = true) (q : Qb false H) : rNe a c H (fun z H5 => ∃ r, z = .bl r ∧ Qb r H5) := ⟨hs, _, rfl, by rw [decide_eq_true e]; exact q⟩
theorem nilI {R : List V → Hp → Prop} (h : R [] H) : tNil σ H R := h
theorem qnew {C C' : Addr} {m : Str} {sp sp' : Sp} {E' : XK} {ta ta' : TA} {tb : TE} {u : TT} {tu tw tz : TS} {D : Ends} (h : tMake C' sp' [] E' ta' σ H fun x H1 => ∃ a dx fs, x = .ref a ∧ H1 a = some (.ins C dx fs) ∧ fs.lookup m = none ∧ ta σ H1 fun vs H2 => sp (x :: (vs ++ [])) H2 (fun v H3 => tb σ H3 fun w H4 => rNe v w H4 fun z H5 => ∃ c, z = .bl c ∧
      (fun c H6 => if c = true then (fun b H7 => if b = true then tu { D with nx := tz D } σ H7 else tw { D with nx := tz D } σ H7) true H6 else u σ H6 (fun b H7 => if b = true then tu { D with nx := tz D } σ H7 else tw { D with nx := tz D } σ H7)) c H5) E) :
    tSeq (tIfS (tOr (tTest (tOp rNe (tMeth C m sp [] E (tMake C' sp' [] E' ta') ta) tb)) u) tu tw) tz D σ H := h
theorem tCI {v : V} {R : VK} (h : R v H) : tC v σ H R := h
theorem ifF {A B : Prop} (h : B) : if false = true then A else B := by rw [if_neg Bool.false_ne_true]; exact h
theorem ifT {A B : Prop} (h : A) : if true = true then A else B := by rw [if_pos rfl]; exact h
end
end TB
namespace TB
open PySem PySem.Spec PyProof.Rows L2
section
variable {P : Program} {w : World} {K : PySem.W.Frag} {mg : Str → Option Value} {base : Heap}
abbrev nl_law_copy_right : List Str := ["_law_held", "_law_twin", "_law_shown"]
theorem sc_law_copy_right : FnScope nl_law_copy_right ["_law_held"] (defScope s_law_copy_right) := ⟨rfl, rfl, rfl, by decide +kernel, rfl, by decide +kernel, by decide +kernel⟩
def sp_copy_right (K : PySem.W.Frag) : Sp := fun vs H Q _ => ∃ (y : Addr) (fu f : Bool) (n : Nat) (gs : List Pg), vs = [.ref y] ∧ Yd K H y fu true gs ∧ Gd fu n f gs ∧ 2 ≤ gs.length ∧ gs.length ≤ 15 ∧ RetV H Q (.bl true)
theorem okG_law_copy_right (T : Txt K mg) (B : Tab K w mg) (Y : Yrd K mg) (Xn : Exn K mg) (FI : FIni P K mg) (F0 : FuncData) : GOk P w K mg base (L2.CX P w) 16 (He.ga K "_law_copy_right") (fdA K (He.ga K "_law_copy_right")) ["_law_held"] (sp_copy_right K) := by
  refine gok T.f_law_copy_right sc_law_copy_right (fun vs H Q E h => ?_) (fun cdv A outer s H vs Q E hr hG h => ?_)
  · obtain ⟨y, fu, f, n, gs, rfl, hy, hg, h2, h15, k⟩ := h
    rfl
  · have nd := sc_law_copy_right.nd
    have hu := hr.units
    obtain ⟨y, fu, f, n, gs, rfl, hy, hg, h2, h15, k⟩ := h
    refine ⟨_, (pss_cons (ps_par (i := 1) (j := 2) rfl nd rfl rfl (by decide) rfl rfl (pa_cons (pe_meth0 (pv 0) (Y.kl fu).cl (Y.kl fu).m_copy (ok_Y_copy (K := K) T B Y FI) (hr.mono (by decide)) T.b_Y_copy .nil pass0) (pa_cons (peCall1 (GOk.at (okG_law_shows (K := K) T B Y) T.b_law_shows (hr.mono (by decide)) hG) (by rfl) T.g_law_shows T.f_law_shows.kp pass0 (pa_cons (pv 0) pa_nil)) pa_nil)) (by rfl))
      (pss_cons (ps_if (PW.pt (pw_or (pt_not (pt_cmpR (op_eqG (rcG_ins (E := E0) (ok_Y_eq (K := K) T B Y) (Y.kl fu).o_eq.at_ (Y.kl fu).o_eq.fn T.b_Y_eq pass0) (hr.mono (by decide))) (pv 1) (pv 0) (nomark _))) (pw_or (pt_cmpR op_ne (peCall1 (GOk.at (okG_law_shows (K := K) T B Y) T.b_law_shows (hr.mono (by decide)) hG) (by rfl) T.g_law_shows T.f_law_shows.kp pass0 (pa_cons (pv 1) pa_nil)) (pv 2) (nomark _)) (pw_or1 (pt_cmpR (opNeD (K := K) rfl hu) (peMethN0 (pv 1) (Y.kl fu).cl (Y.kl fu).m_state_at (ok_Y_state_at (K := K) T B Y) (hr.mono (by decide)) T.kb_st.choose_spec (fun σ => Passes.at pass0 σ) (pk_cons pe_int pk_nil)) (peMethN0 (pv 0) (Y.kl fu).cl (Y.kl fu).m_state_at (ok_Y_state_at (K := K) T B Y) (hr.mono (by decide)) T.kb_st.choose_spec (fun σ => Passes.at pass0 σ) (pk_cons pe_int pk_nil)) (nomark _)))))) (pss_one (ps_ret pe_bl)) pss_nil)
      (pss_cons (ps_if (PW.pt (pw_or (pt_cmpR op_ne (pe_meth0 (pv 1) (Y.kl fu).cl (Y.kl fu).m_swap (ok_Y_swap (K := K) T B Y) (hr.mono (by decide)) T.b_Y_swap .nil (passes_call (takes_of rfl rfl rfl rfl) (fun _ _ _ _ h => h))) (pe_op op_add (pe_prop (pv 0) (Y.kl fu).cl (Y.kl fu).p_version.choose_spec (ok_Y_version (K := K) T B Y) (hr.mono (by decide)) T.b_Y_version .nil pass0 (by rfl)) pe_int) (nomark _)) (pw_or (pt_cmpR op_ne (pe_meth0 (pv 1) (Y.kl fu).cl (Y.kl fu).m_undo (ok_Y_undo (K := K) T B Y) (hr.mono (by decide)) T.b_Y_undo .nil (passes_call (takes_of rfl rfl rfl rfl) (fun _ _ _ _ h => h))) (pe_prop (pv 0) (Y.kl fu).cl (Y.kl fu).p_version.choose_spec (ok_Y_version (K := K) T B Y) (hr.mono (by decide)) T.b_Y_version .nil pass0 (by rfl)) (nomark _)) (pw_or1 (pt_cmpR op_ne (peCall1 (GOk.at (okG_law_shows (K := K) T B Y) T.b_law_shows (hr.mono (by decide)) hG) (by rfl) T.g_law_shows T.f_law_shows.kp pass0 (pa_cons (pv 0) pa_nil)) (pv 2) (nomark _)))))) (pss_one (ps_ret pe_bl)) pss_nil)
      (pss_cons (ps_if (PW.pt (pw_or (pt_cmpR op_ne (peMethR (pv 1) (Y.kl fu).cl (Y.kl fu).m_attempt (T.at1 (ok_Y_attempt (K := K) (sps := fun _ _ _ _ => False) T B Y 0 0 F0 nostep)) (hr.mono (by decide)) (passes_call (takes_of rfl rfl rfl rfl) (fun _ _ _ _ h => h)) (pa_cons (pe_lst (pa_cons (pe_tup (pa_cons pe_str pa_nil)) pa_nil)) pa_nil)) (pe_op op_add (pe_prop (pv 0) (Y.kl fu).cl (Y.kl fu).p_version.choose_spec (ok_Y_version (K := K) T B Y) (hr.mono (by decide)) T.b_Y_version .nil pass0 (by rfl)) pe_int) (nomark _)) (pw_or1 (pt_cmpR op_ne (pe_meth0 (pv 1) (Y.kl fu).cl (Y.kl fu).m_undo (ok_Y_undo (K := K) T B Y) (hr.mono (by decide)) T.b_Y_undo .nil (passes_call (takes_of rfl rfl rfl rfl) (fun _ _ _ _ h => h))) (pe_prop (pv 0) (Y.kl fu).cl (Y.kl fu).p_version.choose_spec (ok_Y_version (K := K) T B Y) (hr.mono (by decide)) T.b_Y_version .nil pass0 (by rfl)) (nomark _))))) (pss_one (ps_ret pe_bl)) pss_nil)
      (pss_cons (ps_if (PW.pt (pw_or (pt_cmpR op_ne (peMethR (pe_make (Y.kl false).mi (ok_Y_init (K := K) T B Y) (hr.mono (by decide)) (by rfl) Y.gY T.b_Y_init .nil pass0 (pa_cons (pe_prop (pv 0) (Y.kl fu).cl (Y.kl fu).p_pair.choose_spec (ok_Y_pair (K := K) T B Y) (hr.mono (by decide)) T.b_Y_pair .nil pass0 (by rfl)) (pa_cons (pe_prop (pv 0) (Y.kl fu).cl (Y.kl fu).p_box.choose_spec (ok_Y_box (K := K) T B Y) (hr.mono (by decide)) T.b_Y_box .nil pass0 (by rfl)) pa_nil))) (Y.kl false).cl (Y.kl false).m_attempt (T.at1 (ok_Y_attempt (K := K) (sps := fun _ _ _ _ => False) T B Y 0 0 F0 nostep)) (hr.mono (by decide)) (passes_call (takes_of rfl rfl rfl rfl) (fun _ _ _ _ h => h)) (pa_cons (pe_lst (pa_cons (pe_tup (pa_cons pe_str pa_nil)) pa_nil)) pa_nil)) pe_int (nomark _)) (pw_or (pt_not (pt_val (pe_call (ok_law_is_busy (K := K) T B Y Xn F0) (hr.mono (by decide)) (by rfl) T.g_law_is_busy (T.f_law_is_busy.kp) (T.b_law_is_busy) .nil pass0 (pa_cons (pv 0) (pa_cons pe_int pa_nil))))) (pw_or1 (pt_cmpR op_ne (peCall1 (GOk.at (okG_law_shows (K := K) T B Y) T.b_law_shows (hr.mono (by decide)) hG) (by rfl) T.g_law_shows T.f_law_shows.kp pass0 (pa_cons (pv 0) pa_nil)) (pv 2) (nomark _)))))) (pss_one (ps_ret pe_bl)) pss_nil)
      (pss_one (ps_ret (pe_and (pe_cmpR op_eq (pe_meth0 (pv 1) (Y.kl fu).cl (Y.kl fu).m_undo (ok_Y_undo (K := K) T B Y) (hr.mono (by decide)) T.b_Y_undo .nil (passes_call (takes_of rfl rfl rfl rfl) (fun _ _ _ _ h => h))) (pe_op op_sub (pe_prop (pv 0) (Y.kl fu).cl (Y.kl fu).p_version.choose_spec (ok_Y_version (K := K) T B Y) (hr.mono (by decide)) T.b_Y_version .nil pass0 (by rfl)) pe_int) (nomark _)) (pe_one (pe_cmpR op_eq (pe_callB (clLen (K := K) rfl) (by rfl) T.n_len (by decide +kernel) (pa_cons (pe_listG (E := E0) (pgen_meth0 (pv 0) (Y.kl fu).cl (Y.kl fu).m_each_version (ok_Y_each_version (K := K) T B Y) (hr.mono (by decide)) T.b_Y_each_version .nil) (passes_call (takes_of rfl rfl rfl rfl) (fun _ _ _ _ h => h.elim)) (fun _ _ _ h => h.elim) (hr.mono (by decide)) (by rfl) T.n_list (by decide +kernel)) pa_nil)) (pe_op op_add (pe_prop (pv 0) (Y.kl fu).cl (Y.kl fu).p_version.choose_spec (ok_Y_version (K := K) T B Y) (hr.mono (by decide)) T.b_Y_version .nil pass0 (by rfl)) pe_int) (nomark _))))))))))), ?_⟩
    have hgl := hg.le
    have hne := hg.ne
    -- copy, shows
    obtain ⟨dx, pa, la, hx1, hx2, hx3⟩ := id hy
    refine ⟨_, rfl, y, dx, _, rfl, hx1, yl_copy _ _ _, y, fu, true, f, n, gs, rfl, hy, hg, fun t H1 k1 nt ht => ?_⟩
    refine ⟨_, rfl, y, fu, true, f, n, gs, rfl, hy.up k1, hg, fun H2 k2 => ?_⟩
    refine ⟨_, _, rfl, ?_⟩
    have kc := k1.trans k2
    replace ht := ht.up k2
    clear k1 k2
    -- alike
    obtain ⟨g0, hg0⟩ : ∃ g, gs[0]? = some g := ⟨gs[0]'(by omega), List.getElem?_eq_getElem (by omega)⟩
    have hy2 := hy.up kc
    refine qif (b := false) (DT.is (dtor (dtnot (dtv (K := K) (dEqG (K := K) rfl rfl ht hy2 rfl))) (fun _ => dtor (dtv (K := K) (dne (K := K) (dShows rfl ht hg) (dv rfl (.str _)) rfl rfl rfl)) (fun _ => dtv (K := K) (dNE (dState (j := 0) rfl ht dint hg0) (dState (j := 0) rfl hy2 dint hg0) (sh_page g0) (sh_page g0))))) (by rw [decide_eq_true rfl, eq_page]; rfl)) (fun e => nomatch e) (fun _ H3 k3 => ?_)
    replace kc := kc.trans k3
    replace ht := ht.up k3
    clear hy2 k3
    -- a swap of the copy
    obtain ⟨dt, pt, lt, t1, t2, t3⟩ := id ht
    refine ⟨_, rfl, t, dt, _, rfl, t1, yl_swap _ _ _, t, fu, false, gs, rfl, ht, EdP.go hg (by omega) fun H4 k4 h4 => ?_⟩
    replace kc := kc.drop nt k4
    refine (dI0 (K := K) (dVers Y rfl (hy.up kc)) dint) H4 .refl _ fun w H5 k5 hw => ?_
    obtain rfl := hw.intI
    refine neSame (by congr 1; omega) rfl (ifF ?_)
    replace kc := kc.trans k5
    replace h4 := h4.up k5
    -- undo
    have hg4 := hg.app (o := none) trivial (by omega)
    obtain ⟨dt, pt, lt, t1, t2, t3⟩ := id h4
    refine ⟨_, rfl, t, dt, _, rfl, t1, yl_undo _ _ _, t, fu, false, _, rfl, h4, UnP.go hg4 (by rw [ln_app1]; omega) fun H6 k6 h6 => ?_⟩
    rw [drop_app] at h6
    replace kc := kc.drop nt k6
    refine (dVers (K := K) Y rfl (hy.up kc)) H6 .refl _ fun w H7 k7 hw => ?_
    obtain rfl := hw.intI
    refine neSame (by rw [ln_app1]; congr 1; omega) rfl (ifF ?_)
    replace kc := kc.trans k7
    replace h6 := h6.up k7
    refine (DT.is (c := false) (dtv (K := K) (dne (K := K) (dShows rfl (hy.up kc) hg) (dv rfl (.str _)) rfl rfl rfl)) (by rw [decide_eq_true rfl]; rfl)) H7 .refl _ fun H8 k8 => ifF ?_
    replace kc := kc.trans k8
    replace h6 := h6.up k8
    -- an attempt of the copy
    obtain ⟨dt, pt, lt, t1, t2, t3⟩ := id h6
    refine ⟨_, rfl, t, dt, _, rfl, t1, yl_att _ _ _, ?_⟩
    refine tconsL (K := K) (ds := [.tuple [.str "swap"]]) (dlst (dacons (dtup (dacons dstr danil)) danil)) fun p H9 xs k9 np hp hx => ?_
    refine nilI ?_
    refine spAtt1 (h6.up k9) hg (by omega) hp hx fun Ha ka ha => ?_
    replace kc := (kc.trans k9).drop nt ka
    refine (dI0 (K := K) (dVers Y rfl (hy.up kc)) dint) Ha .refl _ fun w Hb kb hw => ?_
    obtain rfl := hw.intI
    refine neSame (by congr 1; omega) rfl (ifF ?_)
    replace kc := kc.trans kb
    replace ha := ha.up kb
    obtain ⟨dt, pt, lt, t1, t2, t3⟩ := id ha
    refine ⟨_, rfl, t, dt, _, rfl, t1, yl_undo _ _ _, t, fu, false, _, rfl, ha, UnP.go hg4 (by rw [ln_app1]; omega) fun Hc kc' hc => ?_⟩
    rw [drop_app] at hc
    replace kc := kc.drop nt kc'
    refine (dVers (K := K) Y rfl (hy.up kc)) Hc .refl _ fun w Hd kd hw => ?_
    obtain rfl := hw.intI
    refine neSame (by rw [ln_app1]; congr 1; omega) rfl (ifF ?_)
    replace kc := kc.trans kd
    replace hc := hc.up kd
    -- an attempt of a new yard
    have hyd := hy.up kc
    have hb := hg.bl
    refine snext (qnew ?_)
    refine dNew (K := K) (fu := false) (a := (lastP gs).1.1) (b := (lastP gs).1.2) (x := (lastP gs).2) (dacons (dPair Y rfl hyd hne) (dacons (dBox Y rfl hyd hne) danil)) (fun y' dx' v1 v2 H1' Q1 q1 i1 i2 q2 => ⟨y', dx', v1, v2, false, _, _, _, rfl, q1, i1, i2, hb, q2⟩) fun t5 He ke n5 h5 => ?_
    obtain ⟨d5, p5, l5, u1, u2, u3⟩ := id h5
    refine ⟨t5, d5, _, rfl, u1, yl_att _ _ _, ?_⟩
    refine tconsL (K := K) (ds := [.tuple [.str "swap"]]) (dlst (dacons (dtup (dacons dstr danil)) danil)) fun p5' Hf xs5 kf np5 hp5 hx5 => ?_
    have hg5 : Gd false n f [((((lastP gs).1.1, (lastP gs).1.2), (lastP gs).2) : Pg)] := ⟨by simp, fun g hgm => by rw [List.mem_singleton.mp hgm]; exact ⟨hb, hg.nl, hg.fl⟩, (fun e => nomatch e), by simp⟩
    refine nilI ?_
    refine spAtt1 (h5.up kf) hg5 (by simp) hp5 hx5 fun Hg kg hgg => ?_
    have kn : Kp [] Hd Hg := (ke.trans kf).drop n5 kg
    replace kc := kc.trans kn
    replace hc := hc.up kn
    refine tCI ?_
    refine neSame (by rfl) rfl (ifF ?_)
    refine (DT.is (c := false) (dtor (dtnot (dtB (K := K) (b := true) (fun H1 k1 Q1 q1 => ⟨_, rfl, y, 5, fu, gs, rfl, by decide, by decide, (hy.up kc).up k1, fun H2 k2 => q1 _ H2 k2 (.bl _)⟩))) (fun _ => dtv (K := K) (dne (K := K) (dShows rfl (hy.up kc) hg) (dv rfl (.str _)) rfl rfl rfl))) (by rw [decide_eq_true rfl]; rfl)) Hg .refl _ fun Hh kh => ifF ?_
    replace kc := kc.trans kh
    replace hc := hc.up kh
    -- undo at the end, and the versions
    obtain ⟨dt, pt, lt, t1, t2, t3⟩ := id hc
    refine ⟨_, rfl, t, dt, _, rfl, t1, yl_undo _ _ _, t, fu, false, gs, rfl, hc, UnP.go hg h2 fun Hi ki hi => ?_⟩
    replace kc := kc.drop nt ki
    refine (dI0 (K := K) (dVers Y rfl (hy.up kc)) dint) Hi .refl _ fun w Hj kj hw => ?_
    obtain rfl := hw.intI
    replace kc := kc.trans kj
    refine ⟨rfl, true, by rw [decide_eq_true (by congr 1; omega)], ifT ?_⟩
    have hyj := hy.up kc
    obtain ⟨dy, py, ly, y1, y2, y3⟩ := id hyj
    refine ⟨_, rfl, y, dy, _, rfl, y1, yl_each _ _ _, y, fu, true, f, n, gs, rfl, hyj, hg, fun ys Hk hl kk p np => ?_⟩
    have kp : Kp [] Hj (upd Hk p (.lst ys)) := kk.trans (.new np)
    refine ⟨p, ys, rfl, .inl (.of upd_same), ?_⟩
    refine (dI0 (K := K) (dVers Y rfl ((hyj.up kp))) dint) _ .refl _ fun w Hl kl hw => ?_
    obtain rfl := hw.intI
    have e9 : V.int (ys.length : Int) = V.int ((gs.length : Int) - 1 + 1) := by congr 1; omega
    refine ⟨rfl, ?_⟩
    rw [decide_eq_true e9]
    exact k Hl (kc.trans (kp.trans kl))

end
end TB
/-! what a step of the law asks -/
namespace TB
open PySem PySem.Spec PyProof.Rows L2
section
variable {P : Program} {w : World} {K : PySem.W.Frag} {mg : Str → Option Value} {base : Heap} {σ : L2.St} {H H1 : Hp} {i j : Nat} {y : Addr} {fu b f : Bool} {n : Nat} {gs : List Pg} {E : XK} {Q : VK}
theorem dCopyR (hv : σ[i]? = some (some (.ref y))) (h : Yd K H y fu true gs) (hg : Gd fu n f gs) (h2 : 2 ≤ gs.length) (h3 : gs.length ≤ 15) : DE K (tCall (sp_copy_right K) [] E (tCons (tVar i) tNil)) σ H (.bool true) := fun H1 k Q q =>
  ⟨_, hv, y, fu, f, n, gs, rfl, h.up k, hg, h2, h3, fun H2 k2 => q _ H2 k2 (.bl _)⟩
theorem dHolds (Y : Yrd K mg) (hv : σ[i]? = some (some (.ref y))) (h : Yd K H y fu b gs) (hg : Gd fu n f gs) :
    DE K (tCall (sp_law_paper_holds K) [] E0 (tCons (tProp (kC K fu) (sp_Y_pair K) [] E0 (tVar i)) (tCons (tProp (kC K fu) (sp_Y_box K) [] E0 (tVar i)) (tCons (tProp (kC K fu) (sp_Y_paper K) [] E0 (tVar i)) tNil)))) σ H (.bool true) := fun H1 k Q q =>
  (dPair Y hv h hg.ne) H1 k _ fun v1 H2 k2 i1 => (dBox Y hv h hg.ne) H2 (k.trans k2) _ fun v2 H3 k3 i2 => by
    have kk := k.trans (k2.trans k3)
    have h' := h.up kk
    obtain ⟨dx, pa, la, a1, _, _⟩ := id h'
    exact ⟨_, hv, y, dx, _, rfl, a1, y, fu, b, f, n, gs, rfl, h', hg, fun d hd v3 H4 k4 i3 => ⟨v1, v2, v3, _, _, _, d, rfl, (i1.kp k3).kp k4, i2.kp k4, i3, hg.bl, hd, fun H5 k5 => q _ H5 (k2.trans (k3.trans (k4.trans k5))) (.bl _)⟩⟩
theorem dTrue9 : DL K (tOp rRep (tLst (tCons (tC (.bl true)) tNil)) (tC (.int 9))) σ H (List.replicate 9 (.bool true)) := fun H1 k Q q =>
  (dlst (K := K) (H := H) (σ := σ) (ds := [.bool true]) (dacons dbl danil)) H1 k _ fun p H2 xs k2 np hp hx => by
    obtain ⟨v, rfl, iv⟩ := hx.inv1
    obtain rfl := iv.blI
    refine ⟨p, 9, _, rfl, rfl, hp, by decide, by decide, Evl.sz_of (by decide), fun p' np' => ?_⟩
    exact q p' _ _ (k2.trans (.new np')) (k2.free np') upd_same (.cons (.bl _) (.cons (.bl _) (.cons (.bl _) (.cons (.bl _) (.cons (.bl _) (.cons (.bl _) (.cons (.bl _) (.cons (.bl _) (.cons (.bl _) .nil)))))))))
theorem sh9 : SeqAt.shaped (.list (List.replicate 9 (.bool true))) = true := shaped_list fun d hd => by
  obtain ⟨_, rfl⟩ := List.mem_replicate.mp hd
  exact ⟨rfl, Nat.zero_le _⟩
theorem gv9 : gv 9 (fun _ => true) (fun _ => .bool true) = List.replicate 9 (.bool true) := by
  unfold gv
  rfl
theorem eq9 : PyData.eqv (.list (List.replicate 9 (.bool true))) (.list (List.replicate 9 (.bool true))) = true := SeqAt.eqv_refl_plain _ (by simp [PyData.plain, PyData.plainAll, List.replicate])
theorem dBusyC (hv : σ[i]? = some (some (.ref y))) (hj : σ[j]? = some (some (.int (n : Int)))) (hn : n < 9) (h : Yd K H y fu true gs) : DE K (tCall (sp_is_busy K) [] E (tCons (tVar i) (tCons (tVar j) tNil))) σ H (.bool true) := fun H1 k Q q =>
  ⟨_, hv, _, hj, y, n, fu, gs, rfl, by omega, by omega, h.up k, fun H2 k2 => q _ H2 k2 (.bl _)⟩
/-- a shell that is asked once -/
theorem dShell {X : Cx} {ln an : Str} (hv : σ[i]? = some (some (.ref y))) (h : Yd K H y fu b gs) (hg : Gd fu n f gs) (ha : (ln = "swap" ∧ b = true ∧ an = "no Busy") ∨ (ln = "show" ∧ an = shT (lastP gs) f)) :
    DE K (StX.tCallO X (He.ga K "Shell") (sp_S_call K) E (tMake (He.ga K "Shell") (sp_S_init K) [] E0 (tCons (tVar i) tNil)) (tCons (tC (.str ln)) tNil)) σ H (.str an) := fun H1 k Q q => by
  refine ⟨_, hv, fun z dx nz ndx hne => ?_⟩
  have ka : Kp [] H1 (upd (upd H1 dx (.own z)) z (.ins (He.ga K "Shell") dx [])) := (Kp.new ndx).wn nz
  refine ⟨z, dx, y, rfl, upd_same, fun H2 k2 hs => ⟨rfl, z, rfl, ?_⟩⟩
  have k12 := Kp.drop ka nz k2
  obtain ⟨dz, lz, z1, z2⟩ := id hs
  exact ⟨.inr ⟨dz, _, z1⟩, z, y, ln, an, rfl, ⟨fu, b, f, n, gs, hs, (h.up k).up k12, hg, ha⟩, fun H3 k3 => q _ H3 (Kp.drop k12 nz k3) (.str _)⟩
theorem dDue {p pl : Addr} {xs : List V} {l : List V} (hv : σ[i]? = some (some (.ref p))) (hj : σ[j]? = some (some (.ref pl))) (hpl : H pl = some (.lst l)) (e2 : atI l 2 = some (.str "same")) (hp : H p = some (.lst xs)) (hx : ImAll K H xs (gs.map pageD)) (hg : Gd fu n f gs) :
    DE K (tCall (sp_law_due_shows K) [] E (tCons (tVar i) (tCons (tOp (rIxL K) (tVar j) (tC (.int 2))) tNil))) σ H (.str (PyData.list (shL (lastP gs) gs.length n f)).shown) := fun H1 k Q q =>
  ⟨_, hv, _, hj, pl, l, 2, .str "same", rfl, rfl, .of (k.get hpl), e2, p, xs, n, gs, rfl, k.get hp, hx.kp k, hg.ne, by have := hg.le; omega, hg.bl, hg.nl, fun H2 k2 => by
    rw [hg.fl]
    exact q _ H2 k2 (.str _)⟩
theorem tOpMk {r : R2} {C C' : Addr} {m : Str} {sp sp' : Sp} {E' : XK} {ta ta' : TA} {tb : TE} (h : tMake C' sp' [] E' ta' σ H fun x H1 => ∃ a dx fs, x = .ref a ∧ H1 a = some (.ins C dx fs) ∧ fs.lookup m = none ∧ ta σ H1 fun vs H2 => sp (x :: (vs ++ [])) H2 (fun v H3 => tb σ H3 fun w H4 => r v w H4 Q) E) :
    tOp r (tMeth C m sp [] E (tMake C' sp' [] E' ta') ta) tb σ H Q := h
theorem dSwapN (Y : Yrd K mg) (hv : σ[i]? = some (some (.ref y))) (h : Yd K H y fu b gs) (hg : Gd fu n f gs) :
    DE K (tOp rEq (tMeth (kC K false) "swap" (sp_swap K) [] E (tMake (kC K false) (sp_Y_init K) [] E0 (tCons (tProp (kC K fu) (sp_Y_pair K) [] E0 (tVar i)) (tCons (tProp (kC K fu) (sp_Y_box K) [] E0 (tVar i)) tNil))) tNil) (tC (.int 1))) σ H (.bool true) := fun H1 k Q q => by
  have hb := hg.bl
  have hne := hg.ne
  refine tOpMk ?_
  refine dNew (K := K) (fu := false) (a := (lastP gs).1.1) (b := (lastP gs).1.2) (x := (lastP gs).2) (dacons (dPair Y hv (h.up k) hne) (dacons (dBox Y hv (h.up k) hne) danil)) (fun y' dx' v1 v2 H1' Q1 q1 i1 i2 q2 => ⟨y', dx', v1, v2, false, _, _, _, rfl, q1, i1, i2, hb, q2⟩) fun t5 He ke n5 h5 => ?_
  obtain ⟨d5, p5, l5, u1, u2, u3⟩ := id h5
  have hg5 : Gd false n f [((((lastP gs).1.1, (lastP gs).1.2), (lastP gs).2) : Pg)] := ⟨by simp, fun g hgm => by rw [List.mem_singleton.mp hgm]; exact ⟨hb, hg.nl, hg.fl⟩, (fun e => nomatch e), by simp⟩
  exact ⟨t5, d5, _, rfl, u1, yl_swap _ _ _, t5, false, false, _, rfl, h5, EdP.go hg5 (by simp) fun Hg kg hgg => ⟨rfl, q _ Hg (Kp.drop ke n5 kg) (.bl true)⟩⟩
theorem dPaperC (hv : σ[i]? = some (some (.ref y))) (h : Yd K H y fu b gs) (hg : Gd fu n f gs) :
    DE K (tOp rEq (tOp rEq (tOp (rIxT K) (tProp (kC K fu) (sp_Y_paper K) [] E0 (tVar i)) (tC (.int 0))) (tC (.str "cut"))) (tCB (rBoolO (kC K fu) (sp_Y_bool K) E) (tCons (tVar i) tNil))) σ H (.bool true) := fun H1 k Q q => by
  have h' := h.up k
  obtain ⟨dx, pa, la, a1, _, _⟩ := id h'
  refine ⟨_, hv, y, dx, _, rfl, a1, y, fu, b, f, n, gs, rfl, h', hg, fun d hd v3 H4 k4 i3 => ?_⟩
  have hc := paper_fill hg.bl hd
  rw [hg.fl] at hc
  obtain ⟨w0, r0, rfl⟩ := paper_tup hd
  obtain ⟨a, xs, rfl, hq, hx⟩ := i3.tupI
  obtain ⟨v0, hv0, iv0⟩ := hx.get (i := 0) (d := .str w0) rfl
  obtain rfl := iv0.strI
  refine ⟨a, xs, 0, .str w0, rfl, rfl, hq, atI_nat (j := 0) hv0, rfl, ?_⟩
  have e0 : decide (V.str w0 = V.str "cut") = f := by
    rw [← hc]
    show _ = decide (w0 = "cut")
    simp
  rw [e0]
  have h4 := h'.up k4
  obtain ⟨dx, pa, la, a1, _, _⟩ := id h4
  exact ⟨_, hv, y, dx, _, rfl, a1, y, fu, b, f, n, gs, rfl, h4, hg, fun H5 k5 => ⟨f, rfl, rfl, by rw [decide_eq_true rfl]; exact q _ H5 (k4.trans k5) (.bl _)⟩⟩
theorem cutD_take {α : Type} (l : List α) (k : Nat) : cutD l none (some (k : Int)) = l.take k := by
  have e1 : HT.sIx l.length 0 none = 0 := rfl
  have e2 : HT.sIx l.length l.length (some (k : Int)) = min k l.length := by
    show (if (k : Int) < 0 then ((k : Int) + (l.length : Int)).toNat else min (k : Int).toNat l.length) = _
    rw [if_neg (by omega)]
    simp
  unfold cutD
  rw [e1, e2, List.drop_zero, Nat.sub_zero]
  rcases Nat.le_total k l.length with h | h
  · rw [Nat.min_eq_left h]
  · rw [Nat.min_eq_right h, List.take_of_length_le h, List.take_of_length_le (Nat.le_refl _)]
theorem dlenI {p pl : Addr} {xs l : List V} {k : Int} (hv : σ[i]? = some (some (.ref pl))) (hl : H pl = some (.lst l)) (e : atI l k = some (.ref p)) (hp : H p = some (.lst xs)) : DE K (tCB (fun xs H Q => ∃ p ys, xs = [.ref p] ∧ (SqL K H p ys ∨ SqT K H p ys) ∧ Q (.int ys.length) H) (tCons (tOp (rIxL K) (tVar i) (tC (.int k))) tNil)) σ H (.int (xs.length : Int)) := fun H1 kk Q q =>
  ⟨_, hv, pl, l, k, .ref p, rfl, rfl, .of (kk.get hl), e, p, xs, rfl, .inl (.of (kk.get hp)), q _ H1 .refl (.int _)⟩
theorem dlenVr {p : Addr} {xs : List V} (hv : σ[i]? = some (some (.ref p))) (hp : H p = some (.lst xs)) : DE K (tCB (fun xs H Q => ∃ p ys, xs = [.ref p] ∧ (SqL K H p ys ∨ SqT K H p ys) ∧ Q (.int ys.length) H) (tCons (tVar i) tNil)) σ H (.int (xs.length : Int)) := fun H1 kk Q q =>
  ⟨_, hv, p, xs, rfl, .inl (.of (kk.get hp)), q _ H1 .refl (.int _)⟩
/-- plan[1] + plan[0][:k] -/
theorem dPlan {p0 p1 pl : Addr} {xs0 xs1 l : List V} {g0 sts : List Pg} {te : TE} {k : Nat} (hv : σ[i]? = some (some (.ref pl))) (hl : H pl = some (.lst l)) (e0 : atI l 0 = some (.ref p0)) (e1 : atI l 1 = some (.ref p1)) (h0 : H p0 = some (.lst xs0)) (h1 : H p1 = some (.lst xs1)) (i0 : ImAll K H xs0 (sts.map pageD)) (i1 : ImAll K H xs1 (g0.map pageD)) (hz : g0.length + sts.length ≤ 1000) (hk : DE K te σ H (.int (k : Int))) :
    DL K (tOp rCat (tOp (rIxL K) (tVar i) (tC (.int 1))) (tSl (rSlL K) (tOp (rIxL K) (tVar i) (tC (.int 0))) tNoPart (tPart te))) σ H ((g0 ++ sts.take k).map pageD) := fun H1 kk Q q =>
  ⟨_, hv, pl, l, 1, .ref p1, rfl, rfl, .of (kk.get hl), e1, _, hv, pl, l, 0, .ref p0, rfl, rfl, .of (kk.get hl), e0, hk H1 kk _ fun v H2 k2 hw => by
    obtain rfl := hw.intI
    have k02 := kk.trans k2
    refine ⟨(k : Int), rfl, p0, xs0, rfl, .of (k02.get h0), fun r nr => ?_⟩
    have kn : Kp [] H2 (upd H2 r (.lst (cutV xs0 none (some (k : Int))))) := .new nr
    have hc := (i0.kp k02).cut none (some (k : Int))
    rw [cutD_map, cutD_take] at hc
    have hl0 := i0.len
    have hl1 := i1.len
    have hl2 := hc.len
    rw [List.length_map] at hl0 hl1
    rw [List.length_map, List.length_take] at hl2
    refine ⟨p1, r, xs1, _, rfl, rfl, kn.get (k02.get h1), upd_same, Evl.sz_of (by omega), fun t nt => ?_⟩
    have kt : Kp [] (upd H2 r (.lst (cutV xs0 none (some (k : Int))))) (upd (upd H2 r (.lst (cutV xs0 none (some (k : Int))))) t (.lst (xs1 ++ cutV xs0 none (some (k : Int))))) := .new nt
    rw [List.map_append] at q
    exact q t _ _ (k2.trans (kn.trans kt)) ((k2.trans kn).free nt) upd_same ((((i1.kp k02).kp kn).kp kt).app ((hc.kp kn).kp kt))⟩
theorem dELv2 {ta : TE} {p : Addr} {xs : List V} {ds es : List PyData} (ha : DL K ta σ H ds) (hv : σ[i]? = some (some (.ref p))) (hp : SqL K H p xs) (hx : ImAll K H xs es) (s1 : SeqAt.shaped (.list ds) = true) (s2 : SeqAt.shaped (.list es) = true) : DE K (tOp (rEqD K) ta (tVar i)) σ H (.bool (PyData.eqv (.list ds) (.list es))) := fun H1 k Q q =>
  ha H1 k _ fun p' H2 ys k2 n2 h2 h3 => ⟨_, hv, _, _, .lst (.of h2) h3.dp, .lst ((k.trans k2).sqL hp) (hx.kp (k.trans k2)).dp, s1, s2, q _ H2 k2 (.bl _)⟩
theorem getD_at {i : Nat} {g : Pg} (h : i < gs.length) : gs[i]? = some (gs.getD i g) := by
  rw [List.getD_eq_getElem?_getD, List.getElem?_eq_getElem h]; rfl
theorem gv_pages (gs : List Pg) : gv gs.length (fun _ => true) (fun i => pageD (gs.getD i (([], []), []))) = gs.map pageD := by
  have := gv_map gs (([], []), []) pageD
  rw [List.length_map] at this
  exact this
theorem qapp {ta : TA} {tz : TS} {D : Ends} {p : Addr} {xs : List V} (hv : σ[i]? = some (some (.ref p))) (hp : SqL K H p xs) (h : ta σ H fun vs H2 => rAppend (.ref p) vs H2 (fun _ H3 => tz D σ H3)) : tSeq (tDrop (tBM K "list" rAppend (tVar i) ta)) tz D σ H := ⟨_, hv, .inl ⟨rfl, xs, hp⟩, h⟩
theorem retIfE {ta tb te tf : TE} {D : Ends} (h : ta σ H fun v H1 => tb σ H1 fun w H2 => rEq v w H2 fun z H3 => ∃ c, z = .bl c ∧ if c = true then te σ H3 D.rt else tf σ H3 D.rt) : tRet (tIf (tTest (tOp rEq ta tb)) te tf) D σ H := h
end
end TB
namespace TB
open PySem PySem.Spec PyProof.Rows L2
section
variable {P : Program} {w : World} {K : PySem.W.Frag} {mg : Str → Option Value} {base : Heap}
abbrev nl_law_step : List Str := ["_law_held", "_law_yard", "_law_seen", "_law_plan", "_law_last", "_law_number", "_law_pages", "_law_right", "_law_way", "_law_k"]
theorem sc_law_step : FnScope nl_law_step ["_law_held", "_law_yard", "_law_seen", "_law_plan", "_law_last"] (defScope s_law_step) := ⟨rfl, rfl, rfl, by decide +kernel, rfl, by decide +kernel, by decide +kernel⟩
/-- what a step is told: the yard, what was seen, the plan -/
structure StpP (K : PySem.W.Frag) (H : Hp) (y sn pl : Addr) (fu f : Bool) (n i : Nat) (g0 sts : List Pg) : Prop where
  hy : Yd K H y fu true (g0 ++ sts.take (i + 1))
  hg : Gd fu n f (g0 ++ sts.take (i + 1))
  h0 : 2 ≤ g0.length
  hi : i < sts.length
  hl : g0.length + sts.length ≤ 15
  pl : ∃ (p0 p1 : Addr) (xs0 xs1 : List V), H pl = some (.lst [.ref p0, .ref p1, .str "same"]) ∧ H p0 = some (.lst xs0) ∧ H p1 = some (.lst xs1) ∧ ImAll K H xs0 (sts.map pageD) ∧ ImAll K H xs1 (g0.map pageD)
  sn : H sn = some (.lst (List.replicate i (.ref y)))
def sp_law_step (K : PySem.W.Frag) : Sp := fun vs H Q E => ∃ (y sn pl : Addr) (fu f : Bool) (n i : Nat) (g0 sts : List Pg) (last : Int), vs = [.ref y, .ref y, .ref sn, .ref pl, .int last] ∧ StpP K H y sn pl fu f n i g0 sts ∧
  ∀ H', Kp [sn] H H' → H' sn = some (.lst (List.replicate (i + 1) (.ref y))) → (((i + 1 : Nat) : Int) = last → ∀ d, E (.type "KeyError") d H') ∧ (((i + 1 : Nat) : Int) ≠ last → Q .non H')
theorem okG_law_step (T : Txt K mg) (B : Tab K w mg) (Y : Yrd K mg) (Xn : Exn K mg) (FI : FIni P K mg) (F0 : FuncData) (Sl : Shl K mg) (bm : ∀ fu, BMeth K (kC K fu) "edit" (He.ma K (He.ga K "Yard") "edit")) : GOk P w K mg base (L2.CX P w) 18 (He.ga K "_law_step") (fdA K (He.ga K "_law_step")) ["_law_held", "_law_yard", "_law_seen", "_law_plan", "_law_last"] (sp_law_step K) := by
  refine gok T.f_law_step sc_law_step (fun vs H Q E h => ?_) (fun cdv A outer s H vs Q E hr hG h => ?_)
  · obtain ⟨y, sn, pl, fu, f, n, i, g0, sts, last, rfl, hs, k⟩ := h
    rfl
  · have nd := sc_law_step.nd
    have hu := hr.units
    obtain ⟨y, sn, pl, fu, f, n, i, g0, sts, last, rfl, hs, k⟩ := h
    refine ⟨_, (pss_cons (ps_set (i := 5) nd rfl (Or.inl rfl) (pe_op op_add (pe_callB (clLen (K := K) rfl) (by rfl) T.n_len (by decide +kernel) (pa_cons (pe_ix (ixL (K := K) rfl) (pv 3) pe_int (fun _ _ => rfl)) pa_nil)) (pe_callB (clLen (K := K) rfl) (by rfl) T.n_len (by decide +kernel) (pa_cons (pv 2) pa_nil))))
      (pss_cons (ps_set (i := 6) nd rfl (Or.inl rfl) (pe_op op_cat (pe_ix (ixL (K := K) rfl) (pv 3) pe_int (fun _ _ => rfl)) (pe_slice (slL (K := K) rfl) (pe_ix (ixL (K := K) rfl) (pv 3) pe_int (fun _ _ => rfl)) po_none (po_some (pe_op op_add (pe_callB (clLen (K := K) rfl) (by rfl) T.n_len (by decide +kernel) (pa_cons (pv 2) pa_nil)) pe_int)))))
      (pss_cons (ps_set (i := 7) nd rfl (Or.inl rfl) (pe_and (peCall1 (GOk.at (okG_law_copy_right (K := K) T B Y Xn FI F0) T.b_law_copy_right (hr.mono (by decide)) hG) (by rfl) T.g_law_copy_right T.f_law_copy_right.kp (passes_call (takes_of rfl rfl rfl rfl) (fun _ _ _ _ h => h)) (pa_cons (pv 0) pa_nil)) (pe_one (pe_call (ok_law_paper_holds T) (hr.mono (by decide)) (by rfl) T.g_law_paper_holds (T.f_law_paper_holds.kp) (T.b_law_paper_holds) .nil pass0 (pa_cons (pe_prop (pv 0) (Y.kl fu).cl (Y.kl fu).p_pair.choose_spec (ok_Y_pair (K := K) T B Y) (hr.mono (by decide)) T.b_Y_pair .nil pass0 (by rfl)) (pa_cons (pe_prop (pv 0) (Y.kl fu).cl (Y.kl fu).p_box.choose_spec (ok_Y_box (K := K) T B Y) (hr.mono (by decide)) T.b_Y_box .nil pass0 (by rfl)) (pa_cons (pe_prop (pv 0) (Y.kl fu).cl (Y.kl fu).p_paper.choose_spec (ok_Y_paper (K := K) T B Y) (hr.mono (by decide)) T.b_Y_paper .nil pass0 (by rfl)) pa_nil)))))))
      (pss_cons (ps_set (i := 7) nd rfl (Or.inl rfl) (pe_and (pv 7) (pe_one (pe_cmpR (opEqD (K := K) rfl hu) (pe_lc (own := [("_law_way", 8)]) rfl nd (pi_range1 (by rfl) T.n_range (pa_cons pe_int pa_nil)) (blkOk_by (N := nl_law_step) (sc := defScope s_law_step) (by decide +kernel)) (fun _ _ _ _ _ => (pg_name (i := 8) nd rfl (Or.inl rfl))) (fun _ _ _ _ _ => pts_nil) (fun _ _ _ _ _ => (pe_call (ok_law_is_busy (K := K) T B Y Xn F0) (hr.mono (by decide)) (by rfl) T.g_law_is_busy (T.f_law_is_busy.kp) (T.b_law_is_busy) .nil pass0 (pa_cons (pv 0) (pa_cons (pv 8) pa_nil))))) (pe_op op_rep (pe_lst (pa_cons pe_bl pa_nil)) pe_int) (nomark _)))))
      (pss_cons (ps_set (i := 7) nd rfl (Or.inl rfl) (pe_and (pv 7) (pe_one (pe_cmpR (opEqD (K := K) rfl hu) (pe_lc (own := [("_law_way", 8)]) rfl nd (pi_range1 (by rfl) T.n_range (pa_cons pe_int pa_nil)) (blkOk_by (N := nl_law_step) (sc := defScope s_law_step) (by decide +kernel)) (fun _ _ _ _ _ => (pg_name (i := 8) nd rfl (Or.inl rfl))) (fun _ _ _ _ _ => pts_nil) (fun _ _ _ _ _ => (pe_call (ok_law_is_busy (K := K) T B Y Xn F0) (hr.mono (by decide)) (by rfl) T.g_law_is_busy (T.f_law_is_busy.kp) (T.b_law_is_busy) .nil pass0 (pa_cons (pv 1) (pa_cons (pv 8) pa_nil))))) (pe_op op_rep (pe_lst (pa_cons pe_bl pa_nil)) pe_int) (nomark _)))))
      (pss_cons (ps_set (i := 7) nd rfl (Or.inl rfl) (pe_and (pv 7) (pe_and (pe_cmpR op_eq (StX.pe_callO (pe_make Sl.mk1 (ok_S_init (K := K) T Sl) (hr.mono (by decide)) (by rfl) Sl.g T.b_S_init .nil pass0 (pa_cons (pv 1) pa_nil)) Sl.co (raw0 (ok_S_call (K := K) T B Y Xn Sl bm) T.b_S_call) (hr.mono (by decide)) pass0 (pa_cons pe_str pa_nil)) pe_str (nomark _)) (pe_one (pe_cmpR op_eq (StX.pe_callO (pe_make Sl.mk1 (ok_S_init (K := K) T Sl) (hr.mono (by decide)) (by rfl) Sl.g T.b_S_init .nil pass0 (pa_cons (pv 0) pa_nil)) Sl.co (raw0 (ok_S_call (K := K) T B Y Xn Sl bm) T.b_S_call) (hr.mono (by decide)) pass0 (pa_cons pe_str pa_nil)) (pe_callTy (clStrO (ok_Y_str (K := K) T B Y) (hr.mono (by decide)) T.b_Y_str pass0 (Y.kl fu).o_str) (by rfl) T.n_str (by decide +kernel) (pa_cons (pv 1) pa_nil)) (nomark _))))))
      (pss_cons (ps_set (i := 7) nd rfl (Or.inl rfl) (pe_and (pv 7) (pe_and (pe_cmpR op_eq (peCall1 (GOk.at (okG_law_shows (K := K) T B Y) T.b_law_shows (hr.mono (by decide)) hG) (by rfl) T.g_law_shows T.f_law_shows.kp pass0 (pa_cons (pv 0) pa_nil)) (peCall1 (GOk.at (okG_law_due_shows (K := K) T) T.b_law_due_shows (hr.mono (by decide)) hG) (by rfl) T.g_law_due_shows T.f_law_due_shows.kp pass0 (pa_cons (pv 6) (pa_cons (pe_ix (ixL (K := K) rfl) (pv 3) pe_int (fun _ _ => rfl)) pa_nil))) (nomark _)) (pe_one (pe_cmpR op_eq (pe_prop (pv 0) (Y.kl fu).cl (Y.kl fu).p_version.choose_spec (ok_Y_version (K := K) T B Y) (hr.mono (by decide)) T.b_Y_version .nil pass0 (by rfl)) (pv 5) (nomark _))))))
      (pss_cons (ps_set (i := 7) nd rfl (Or.inl rfl) (pe_and (pv 7) (pe_and (pe_cmpR (op_eqG (rcG_ins (E := E0) (ok_Y_eq (K := K) T B Y) (Y.kl fu).o_eq.at_ (Y.kl fu).o_eq.fn T.b_Y_eq pass0) (hr.mono (by decide))) (pv 0) (pv 1) (nomark _)) (pe_one (pe_cmpR (opEqD (K := K) rfl hu) (pe_lc (own := [("_law_k", 9)]) rfl nd (pi_range1 (by rfl) T.n_range (pa_cons (pe_op op_add (pv 5) pe_int) pa_nil)) (blkOk_by (N := nl_law_step) (sc := defScope s_law_step) (by decide +kernel)) (fun _ _ _ _ _ => (pg_name (i := 9) nd rfl (Or.inl rfl))) (fun _ _ _ _ _ => pts_nil) (fun _ _ _ _ _ => (peMethN0 (pv 0) (Y.kl fu).cl (Y.kl fu).m_state_at (ok_Y_state_at (K := K) T B Y) (hr.mono (by decide)) T.kb_st.choose_spec (fun σ => Passes.at pass0 σ) (pk_cons (pv 9) pk_nil)))) (pv 6) (nomark _))))))
      (pss_cons (ps_set (i := 7) nd rfl (Or.inl rfl) (pe_and (pv 7) (pe_and (peCall1 (GOk.at (okG_law_copy_right (K := K) T B Y Xn FI F0) T.b_law_copy_right (hr.mono (by decide)) hG) (by rfl) T.g_law_copy_right T.f_law_copy_right.kp (passes_call (takes_of rfl rfl rfl rfl) (fun _ _ _ _ h => h)) (pa_cons (pv 0) pa_nil)) (pe_one (pe_cmpR op_eq (pe_meth0 (pe_make (Y.kl false).mi (ok_Y_init (K := K) T B Y) (hr.mono (by decide)) (by rfl) Y.gY T.b_Y_init .nil pass0 (pa_cons (pe_prop (pv 0) (Y.kl fu).cl (Y.kl fu).p_pair.choose_spec (ok_Y_pair (K := K) T B Y) (hr.mono (by decide)) T.b_Y_pair .nil pass0 (by rfl)) (pa_cons (pe_prop (pv 0) (Y.kl fu).cl (Y.kl fu).p_box.choose_spec (ok_Y_box (K := K) T B Y) (hr.mono (by decide)) T.b_Y_box .nil pass0 (by rfl)) pa_nil))) (Y.kl false).cl (Y.kl false).m_swap (ok_Y_swap (K := K) T B Y) (hr.mono (by decide)) T.b_Y_swap .nil (passes_call (takes_of rfl rfl rfl rfl) (fun _ _ _ _ h => h))) pe_int (nomark _))))))
      (pss_cons (ps_set (i := 7) nd rfl (Or.inl rfl) (pe_and (pv 7) (pe_one (pe_cmpR op_eq (pe_cmpR op_eq (pe_ix (ixT (K := K) rfl) (pe_prop (pv 0) (Y.kl fu).cl (Y.kl fu).p_paper.choose_spec (ok_Y_paper (K := K) T B Y) (hr.mono (by decide)) T.b_Y_paper .nil pass0 (by rfl)) pe_int (fun _ _ => rfl)) pe_str (nomark _)) (pe_callTy (clBoolO (ok_Y_bool (K := K) T B Y) (hr.mono (by decide)) T.b_Y_bool pass0 (Y.kl fu).o_bool) (by rfl) T.n_bool (by decide +kernel) (pa_cons (pv 0) pa_nil)) (nomark _)))))
      (pss_cons (ps_expr (pe_bm PySem.F.plainAttrs_list PySem.F.slot_list_append PySem.F.type_list_append mt_append (pv 2) (pa_cons (pe_ifExp (pt_val (pv 7)) (pv 0) pe_non) pa_nil)))
      (pss_one (ps_ret (pe_ifExp (pt_cmpR op_eq (pe_callB (clLen (K := K) rfl) (by rfl) T.n_len (by decide +kernel) (pa_cons (pv 2) pa_nil)) (pv 4) (nomark _)) (pe_dgetX rfl (Nat.lt_of_le_of_lt (Nat.add_le_add_left (by decide : 1 ≤ 64) _) hu) (takes_of rfl rfl rfl rfl) pe_dnewK (pv 4) (fun _ _ => rfl)) pe_non)))))))))))))), ?_⟩
    obtain ⟨hy0, hg, h0, hi, hl, ⟨p0, p1, xs0, xs1, hpl, hp0, hp1, i0, i1⟩, hsn⟩ := hs
    have hgl : (g0 ++ sts.take (i + 1)).length = g0.length + (i + 1) := by rw [List.length_append, List.length_take, Nat.min_eq_left (by omega)]
    have hl1 : xs1.length = g0.length := by have := i1.len; rw [List.length_map] at this; exact this
    refine qasg (K := K) (d := .int ((g0.length + i : Nat) : Int)) (DE.is (dI0 (dlenI rfl hpl atI3b hp1) (dlenVr rfl hsn)) (by rw [List.length_replicate, hl1]; rfl)) fun v Ha ka hv => ?_
    obtain rfl := hv.intI
    have kc := ka
    refine qasgL (K := K) (ds := (g0 ++ sts.take (i + 1)).map pageD) (dPlan (k := i + 1) rfl (kc.get hpl) atI3a atI3b (kc.get hp0) (kc.get hp1) (i0.kp kc) (i1.kp kc) (by omega) (DE.is (dI0 (dlenVr rfl (kc.get hsn)) dint) (by rw [List.length_replicate]; rfl))) fun pg Hb xs kb nb hpg hxs => ?_
    replace kc := kc.trans kb
    clear ka kb
    generalize g0 ++ sts.take (i + 1) = gs at *
    have hy := fun {H' : Hp} (k : Kp [] H H') => hy0.up k
    have h2 : 2 ≤ gs.length := by omega
    have h15 : gs.length ≤ 15 := by omega
    -- the copy, the paper
    refine qasg (K := K) (d := .bool true) (DE.is (dand (dCopyR rfl (hy kc) hg h2 h15) (fun _ => dHolds Y rfl (hy kc) hg)) rfl) fun v Hc kd hv => ?_
    obtain rfl := hv.blI
    replace hpg := kd.get hpg
    replace hxs := hxs.kp kd
    replace kc := kc.trans kd
    clear kd
    -- what is busy
    refine qasg (K := K) (d := .bool true) (DE.is (dand (dv rfl (.bl true)) (fun _ => DE.is (dEL (es := List.replicate 9 (.bool true)) (DL.is (dlcR (n := 9) (j := 8) (vs := [8]) (fun _ => true) (fun _ => .bool true) (dacons (DE.is dint rfl) danil) (by decide) (fun _ => rfl) (fun i H1 k hi => dyes) (fun i H1 k hi _ => dBusyC (n := i) rfl rfl hi ((hy kc).up k))) gv9) dTrue9 sh9 sh9) (congrArg PyData.bool eq9))) rfl) fun v Hd kd hv => ?_
    obtain rfl := hv.blI
    replace hpg := kd.get hpg
    replace hxs := hxs.kp kd
    replace kc := kc.trans kd
    clear kd
    refine qasg (K := K) (d := .bool true) (DE.is (dand (dv rfl (.bl true)) (fun _ => DE.is (dEL (es := List.replicate 9 (.bool true)) (DL.is (dlcR (n := 9) (j := 8) (vs := [8]) (fun _ => true) (fun _ => .bool true) (dacons (DE.is dint rfl) danil) (by decide) (fun _ => rfl) (fun i H1 k hi => dyes) (fun i H1 k hi _ => dBusyC (n := i) rfl rfl hi ((hy kc).up k))) gv9) dTrue9 sh9 sh9) (congrArg PyData.bool eq9))) rfl) fun v He kd hv => ?_
    obtain rfl := hv.blI
    replace hpg := kd.get hpg
    replace hxs := hxs.kp kd
    replace kc := kc.trans kd
    clear kd
    -- the shells
    refine qasg (K := K) (d := .bool true) (DE.is (dand (dv rfl (.bl true)) (fun _ => dand (DE.is (deq (dShell (an := "no Busy") rfl (hy kc) hg (.inl ⟨rfl, rfl, rfl⟩)) dstr rfl rfl rfl) (congrArg PyData.bool (decide_eq_true rfl))) (fun _ => DE.is (deq (dShell (an := shT (lastP gs) f) rfl (hy kc) hg (.inr ⟨rfl, rfl⟩)) (dStrY rfl (hy kc) hg) rfl rfl rfl) (congrArg PyData.bool (decide_eq_true rfl))))) rfl) fun v Hf kd hv => ?_
    obtain rfl := hv.blI
    replace hpg := kd.get hpg
    replace hxs := hxs.kp kd
    replace kc := kc.trans kd
    clear kd
    -- what it shows
    refine qasg (K := K) (d := .bool true) (DE.is (dand (dv rfl (.bl true)) (fun _ => dand (DE.is (deq (dShows rfl (hy kc) hg) (dDue rfl rfl (kc.get hpl) atI3c hpg hxs hg) rfl rfl rfl) (congrArg PyData.bool (decide_eq_true rfl))) (fun _ => DE.is (deq (dVers Y rfl (hy kc)) (dv rfl (.int _)) rfl rfl rfl) (congrArg PyData.bool (decide_eq_true (by congr 1; omega)))))) rfl) fun v Hg kd hv => ?_
    obtain rfl := hv.blI
    replace hpg := kd.get hpg
    replace hxs := hxs.kp kd
    replace kc := kc.trans kd
    clear kd
    -- its versions
    refine qasg (K := K) (d := .bool true) (DE.is (dand (dv rfl (.bl true)) (fun _ => dand (dEqG rfl rfl (hy kc) (hy kc) rfl) (fun _ => DE.is (dELv2 (dlcR (n := gs.length) (j := 9) (vs := [9]) (fun _ => true) (fun i => pageD (gs.getD i (([], []), []))) (dacons (DE.is (dI0 (dv rfl (.int _)) dint) (by congr 1; omega)) danil) (by omega) (fun _ => rfl) (fun i H1 k hi => dyes) (fun i H1 k hi _ => dState (g := gs.getD i (([], []), [])) (j := i) rfl ((hy kc).up k) (dv rfl (.int _)) (getD_at hi))) rfl (.of hpg) hxs (by rw [gv_pages]; exact sh_pages gs) (sh_pages gs)) (by rw [gv_pages, eq_pages])))) rfl) fun v Hh kd hv => ?_
    obtain rfl := hv.blI
    replace kc := kc.trans kd
    clear kd
    -- once more
    refine qasg (K := K) (d := .bool true) (DE.is (dand (dv rfl (.bl true)) (fun _ => dand (dCopyR rfl (hy kc) hg h2 h15) (fun _ => dSwapN Y rfl (hy kc) hg))) rfl) fun v Hi kd hv => ?_
    obtain rfl := hv.blI
    replace kc := kc.trans kd
    clear kd
    refine qasg (K := K) (d := .bool true) (DE.is (dand (dv rfl (.bl true)) (fun _ => dPaperC rfl (hy kc) hg)) rfl) fun v Hj kd hv => ?_
    obtain rfl := hv.blI
    replace kc := kc.trans kd
    clear kd
    -- it is seen
    refine qapp (K := K) (i := 2) rfl (.of (kc.get hsn)) ⟨_, rfl, true, rfl, ifT ⟨_, rfl, ?_⟩⟩
    refine ⟨sn, _, .ref y, rfl, rfl, kc.get hsn, Evl.sz_lt (by rw [List.length_replicate]; omega), ?_⟩
    rw [← List.replicate_succ']
    have ks : Kp [sn] H (upd Hj sn (.lst (List.replicate (i + 1) (.ref y)))) := kc.up.trans (Kp.wl (kc.get hsn) (by simp))
    have hsn2 : (upd Hj sn (.lst (List.replicate (i + 1) (.ref y)))) sn = some (.lst (List.replicate (i + 1) (.ref y))) := upd_same
    show tRet _ _ _ (upd Hj sn (.lst (List.replicate (i + 1) (.ref y))))
    generalize upd Hj sn (.lst (List.replicate (i + 1) (.ref y))) = Hk at *
    refine retIfE ?_
    refine (dlenVr (K := K) (i := 2) (σ := [some (.ref y), some (.ref y), some (.ref sn), some (.ref pl), some (.int last), some (.int ((g0.length + i : Nat) : Int)), some (.ref pg), some (.bl true), none, none]) rfl hsn2) Hk .refl _ fun v Hl kl hv => ?_
    obtain rfl := hv.intI
    rw [List.length_replicate]
    refine ⟨_, rfl, rfl, _, rfl, ?_⟩
    by_cases e : ((i + 1 : Nat) : Int) = last
    · have e' : V.int ((i + 1 : Nat) : Int) = V.int last := by rw [e]
      rw [decide_eq_true e']
      refine ifT fun p np => ⟨_, rfl, p, none, rfl, .inl ⟨[], .inl last, .inl upd_same, rfl, rfl⟩, fun v h => (nomatch h), fun _ d => ?_⟩
      have kp : Kp [] Hl (upd Hl p (.dK [])) := .new np
      exact (k _ (ks.trans (kl.trans kp).up) ((kl.trans kp).get hsn2)).1 e d
    · have e' : V.int ((i + 1 : Nat) : Int) ≠ V.int last := fun h => e (V.int.inj h)
      rw [decide_eq_false e']
      exact ifF ((k _ (ks.trans kl.up) (kl.get hsn2)).2 e)

end
end TB
namespace TB
open PySem PySem.Spec PyProof.Rows L2
section
variable {P : Program} {w : World} {K : PySem.W.Frag} {mg : Str → Option Value} {base : Heap}

theorem exKey {K : PySem.W.Frag} : PySem.W.exmOne K (.type "KeyError") (.type "KeyError") = some true := by rfl
theorem qtry1 {t : Ends → TS} {v : TS} {D : Ends} {σ : L2.St} {H : Hp} (h : t { D with nx := v D } { D with nx := v D } σ H) : tSeq (fun D σ H => t D D σ H) v D σ H := h
/-- what a tried attempt promises: what the attempt promises, and that a KeyError is told -/
def sp_tried (K : PySem.W.Frag) (lf : Addr) (F : FuncData) (sps : Sp) : Sp := fun vs H Q _ => ∃ (y p : Addr) (fu f : Bool) (n : Nat) (gs : List Pg) (xs : List V) (its : List (Option (List Int))) (l : List Addr) (J : Nat → Hp → Prop) (JE : Hp → Prop),
  vs = [.ref y, .ref p, .ref lf] ∧ Yd K H y fu false gs ∧ H p = some (.lst xs) ∧ ImAll K H xs (its.map itD) ∧ Gd fu n f gs ∧ (∀ o ∈ its, itOk n o) ∧ its.length ≤ 10 ∧ gs.length + its.length ≤ 20 ∧ y ∈ l ∧ (∀ i H', J i H' → H' lf = some (FnQ lf F)) ∧
  (∀ H0, Kp [y] H H0 → Yd K H0 y fu true gs → J 0 H0) ∧ (∀ i H', J i H' → Kp l H H' ∧ Yd K H' y fu true (appN gs (its.take i))) ∧ (∀ i H' H2, J i H' → Kp [] H' H2 → J i H2) ∧
  (∀ i H1, i < its.length → J i H1 → ∀ H2, Kp [y] H1 H2 → Yd K H2 y fu true (appN gs (its.take (i + 1))) → H2 lf = some (FnQ lf F) ∧ ∀ (Q1 : VK) (E1 : XK), (∀ v H3, J (i + 1) H3 → Kp l H2 H3 → Q1 v H3) → (∀ d H3, JE H3 → Kp l H2 H3 → E1 (.type "KeyError") d H3) → sps [.ref y] H2 Q1 E1) ∧
  (∀ H3, JE H3 → Kp l H H3 ∧ (∃ gs3, Yd K H3 y fu true gs3) ∧ ∀ r H', Kp [y] H3 H' → Yd K H' y fu false gs → H' r = some (.lst [.str "key"]) → Q (.ref r) H') ∧
  (∀ H1, J its.length H1 → ∀ r H', Kp [y] H1 H' → Yd K H' y fu false (appN gs its) → H' r = some (.lst [.str "ok", .int ((gs.length : Int) + its.length - 1)]) → Q (.ref r) H')

abbrev nl_law_tried : List Str := ["_law_yard", "_law_items", "_law_step_here", "_law_found"]
theorem sc_law_tried : FnScope nl_law_tried ["_law_yard", "_law_items", "_law_step_here"] (defScope s_law_tried) := ⟨rfl, rfl, rfl, by decide +kernel, rfl, by decide +kernel, by decide +kernel⟩

theorem okG_law_tried (T : Txt K mg) (B : Tab K w mg) (Y : Yrd K mg) (kc : Nat) (lf : Addr) (F : FuncData) {sps : Sp} (Fs : GR1 P w K mg base (L2.CX P w) kc lf sps) : GOk P w K mg base CX0 (kc + 13) (He.ga K "_law_tried") (fdA K (He.ga K "_law_tried")) ["_law_yard", "_law_items", "_law_step_here"] (sp_tried K lf F sps) := by
  refine gok T.f_law_tried sc_law_tried (fun vs H Q E h => ?_) (fun cdv A outer s H vs Q E hr hG h => ?_)
  · obtain ⟨y, p, fu, f, n, gs, xs, its, l, J, JE, rfl, hy, hp, hx, hg, hi, h10, h20, hyl, hlf, j0, jk, jm, js, je, jq⟩ := h
    rfl
  · have nd := sc_law_tried.nd
    have hu := hr.units
    obtain ⟨y, p, fu, f, n, gs, xs, its, l, J, JE, rfl, hy, hp, hx, hg, hi, h10, h20, hyl, hlf, j0, jk, jm, js, je, jq⟩ := h
    refine ⟨_, PSs.nox (pss_cons (ps_try_only (c := .type "KeyError") rfl rfl ⟨rfl, by decide, .inr ⟨T.n_KeyError, by decide +kernel, by decide⟩⟩ takes0 (fun W pz xe tk _ => (pss_one (ps_set (i := 3) nd rfl (Or.inl rfl) (pe_lst (pa_cons pe_str (pa_cons (peMethN1 (pv 0) (Y.kl fu).cl (Y.kl fu).m_attempt (okG_Y_attempt (K := K) (sps := sps) T B Y kc lf F Fs) (hr.mono (by omega)) hG T.kb_at.choose_spec (fun σ => passAt tk σ) (pa_cons (pv 1) pa_nil) (pk_cons (pv 2) pk_nil)) pa_nil)))))) (fun a oe cls d pn hz hf => (pss_one (ps_set (i := 3) nd rfl (Or.inl rfl) (pe_lst (pa_cons pe_str pa_nil))))))
      (pss_one (ps_ret (pv 3)))), ?_⟩
    refine qtry1 ?_
    obtain ⟨dx, pa, la, h1, h2, h3⟩ := id hy
    refine ⟨_, rfl, y, dx, _, rfl, h1, yl_att _ _ _, _, rfl, _, rfl, rfl, rfl, ?_⟩
    refine ⟨y, .ref p, .ref lf, fu, false, gs, rfl, hy, (fun e => (nomatch e)), fun _ => ⟨p, xs, f, n, its, l, J, (fun cls d H3 => cls = .type "KeyError" ∧ JE H3), rfl, hp, hx, hg, hi, h10, h20, hyl, .inr ⟨rfl, hlf⟩, j0, jk, jm, ?_, ?_, ?_⟩⟩
    · intro i H1 hi1 j H2 k2 y2
      refine ⟨fun e => (nomatch e), fun _ => ?_⟩
      obtain ⟨a1, a2⟩ := js i H1 hi1 j H2 k2 y2
      exact ⟨a1, fun Q1 E1 q1 e1 => a2 Q1 E1 q1 (fun d H3 j3 k3 => e1 _ d H3 ⟨rfl, j3⟩ k3)⟩
    · rintro cls d H3 ⟨rfl, j3⟩
      obtain ⟨b1, b2, b3⟩ := je H3 j3
      refine ⟨b1, b2, fun H' k' y' => ⟨true, exKey, (fun _ a na => ⟨Evl.sz_of (by simp), fun r nr => ⟨_, rfl, ?_⟩⟩), (fun e => nomatch e)⟩⟩
      exact b3 r _ (k'.trans (Kp.new nr)) (y'.up (.new nr)) upd_same
    · intro H1 j1 H' k' y'
      refine ⟨Evl.sz_of (by simp), fun r nr => ⟨_, rfl, ?_⟩⟩
      exact jq H1 j1 r _ (k'.trans (Kp.new nr)) (y'.up (.new nr)) upd_same

end
end TB
namespace TB
open PySem PySem.Spec PyProof.Rows L2
section
variable {P : Program} {w : World} {K : PySem.W.Frag} {mg : Str → Option Value} {base : Heap}
/-- a yard is not None -/
def spEqN (K : PySem.W.Frag) : Sp := fun vs H Q _ => ∃ (p : Addr) (fu b : Bool) (gs : List Pg), vs = [.ref p, .non] ∧ Yd K H p fu b gs ∧ ∀ H', Ext H H' → Q (.bl false) H'
theorem ok_Y_eqN (T : Txt K mg) (B : Tab K w mg) (Y : Yrd K mg) (kN : PySem.W.kitOne K (.type "NoneType") (.ref (He.ga K "Yard")) = some false) : FnOk P w K mg base CX0 2 (He.ma K (He.ga K "Yard") "__eq__") (fdA K (He.ma K (He.ga K "Yard") "__eq__")) ["self", "other"] (spEqN K) := by
  refine T.f_Y_eq.ok sc_Y_eq (fun vs H Q E h => ?_) (fun cdv A outer s H vs Q E hr h => ?_)
  · obtain ⟨p, fu, b, gs, rfl, hy, k⟩ := h
    rfl
  · have nd := sc_Y_eq.nd
    have hu := hr.units
    obtain ⟨p, fu, b, gs, rfl, hy, k⟩ := h
    refine ⟨_, PSs.nox (pss_one (ps_ret (pe_and (pe_callB (clIsi (K := K) rfl) (by rfl) T.n_isinstance (by decide +kernel) (pa_cons (pv 1) (pa_cons (pe_glob (v := .ref (He.ga K "Yard")) rfl Y.gY rfl) pa_nil))) (pe_one (pe_cmpR (opEqD (K := K) rfl hu) (peFld (K := K) rfl (pv 0)) (peFld (K := K) rfl (pv 1)) (nomark _)))))), ?_⟩
    have h1 : DE K (tCB (rIsi K) (tCons (tVar 1) (tCons (tC (.ref (He.ga K "Yard"))) tNil))) [some (.ref p), some .non] H (.bool false) := fun H1 k1 Q1 q1 => ⟨_, rfl, _, _, .type "NoneType", _, false, rfl, .own _, .base .non, kN, q1 _ H1 .refl (.bl _)⟩
    exact sretV (K := K) (d := .bool false) (DE.is (dand (b := true) h1 (fun e => nomatch e)) rfl) rfl fun H1 k1 => k H1 k1.ext


end
/-! None in a list of yards. The steps follow those of the library: the loop of list.__eq__ in HandS.OwnEq, and HandS.NoneIn -/
section
variable {prog : Program} {w : World} {A : Around}
theorem noneLoop {R : Result → Shared → Prop} (l : Addr) (N : Nat) (Nv : Nat → Shared → Prop)
    (step : ∀ i s, Nv i s → ∃ (items : Array Value) (n : Nat), s.heap.get? l = some { cls := .type "list", data := .seq items n } ∧ items.size = N ∧ ∀ h : i < items.size, wpAny (model prog w) A.in1 (eqBool items[i] .none) (fun r s' => r = false ∧ Nv (i + 1) s') (fun e s' => R (.error e) s') s)
    (fin : ∀ s, Nv N s → R (.ok (.ret (.bool false))) s) (k : Nat) : ∀ i : Nat, N - i = k → i ≤ N → ∀ s, Nv i s →
      wpAny (model prog w) A.in1 (Builtin.«list.__contains__.loop» ⟨[.ref l, .none, rawInt i], []⟩) (GQ.FinOf prog w A R) (fun e s' => R (.error e) s') s := by
  induction k with
  | zero =>
    intro i hk hi s h
    obtain ⟨items, n, hl, hs, _⟩ := step i s h
    have hN : i = N := by omega
    have hR : R (.ok (.ret (.bool false))) s := fin s (hN ▸ h)
    obtain ⟨hp, gn, d, tc, os⟩ := s
    wp_walk using AutoSeq1.wpAny_loadPart' hl
    rw [show items[((i : Nat) : Int).toNat]? = none by simp; omega]
    wp_walk
    exact hR
  | succ k ih =>
    intro i hk hi s h
    obtain ⟨items, n, hl, hs, turn⟩ := step i s h
    have hlt : i < items.size := by omega
    have ht := turn hlt
    have next := fun s' q => ih (i + 1) (by omega) (by omega) s' q
    obtain ⟨hp, gn, d, tc, os⟩ := s
    wp_walk using AutoSeq1.wpAny_loadPart' hl
    rw [show items[((i : Nat) : Int).toNat]? = some items[i] by simp [hlt]]
    refine wpAny_bind (wpAny_mono ht (fun r s' q => ?_) fun _ _ x => x)
    obtain ⟨rfl, q⟩ := q
    have hc : ((i : Int) + 1) = ((i + 1 : Nat) : Int) := by omega
    have nx := next s' q
    obtain ⟨hp', g', d', tk', os'⟩ := s'
    wp_walk
    rw [hc]
    exact ⟨plainId_quiet MeetsSeq.plain_contains_loop _, codeAny_builtin MeetsSeq.entry_contains_loop (by
      rw [Around.under_plainId MeetsSeq.plain_contains_loop _]
      exact nx)⟩
theorem noneIn {E : Value → Shared → Prop} {s : Shared} {Q : Value → Shared → Prop} (l : Addr) (N : Nat) (Nv : Nat → Shared → Prop)
    (step : ∀ i s, Nv i s → ∃ (items : Array Value) (n : Nat), s.heap.get? l = some { cls := .type "list", data := .seq items n } ∧ items.size = N ∧ ∀ h : i < items.size, wpAny (model prog w) A.in1 (eqBool items[i] .none) (fun r s' => r = false ∧ Nv (i + 1) s') E s)
    (fin : ∀ s, Nv N s → Q (.bool false) s) (h0 : Nv 0 s) : wpAny (model prog w) A (compareOp .In .none (.ref l)) Q E s := by
  obtain ⟨items, n, hl, hs, _⟩ := step 0 s h0
  show wpAny _ A (do return .bool (← contains (.ref l) .none)) Q E s
  have hT : s.TypeIs (.ref l) "list" := ⟨_, hl, rfl⟩
  refine wpAny_bind (wpAny_contains_slot hT PySem.F.slot_list_contains (GQ.call_here PySem.F.slot_list_contains hT PySem.F.entry_list_contains (PySem.F.args_list_contains_2 _ _) ?_))
  have lp := noneLoop (prog := prog) (w := w) (A := A) (R := wants (fun r s' => wpAny (model prog w) A (truthy r) (fun b s2 => wpAny (model prog w) A (pure (Value.bool b)) Q E s2) E s') E) l N Nv step
    (fun s' q => wpAny_truthy_bool (wpAny_pure (fin s' q))) N 0 rfl (Nat.zero_le _) s h0
  obtain ⟨hp, gn, d, tc, os⟩ := s
  wp_walk using AutoSeq1.wpAny_loadPart' hl
  exact ⟨plainId_quiet MeetsSeq.plain_contains_loop _, codeAny_builtin MeetsSeq.entry_contains_loop (by
    rw [Around.under_plainId MeetsSeq.plain_contains_loop _]
    exact lp)⟩
end
section
variable {K : PySem.W.Frag} {mg : Str → Option Value} {X : Cx}
/-- None in a list of one yard's references -/
def rNoIn (K : PySem.W.Frag) : R2 := fun x v H Q => ∃ (l y : Addr) (i : Nat) (fu b : Bool) (gs : List Pg), x = .non ∧ v = .ref l ∧ H l = some (.lst (List.replicate i (.ref y))) ∧ Yd K H y fu b gs ∧ ∀ H', Kp [] H H' → Q (.bl false) H'
theorem noneYd {CX : CXT} {E : XK} {fd : FuncData} {ps : List Str} (Y : Yrd K mg) (hK : X.K = K) {f : Addr} (ow : ∀ fu, Own K (kC K fu) "__eq__" f) (F : FnOk X.prog X.w X.K X.mg X.base CX 2 f fd ps (spEqN K)) (hb : Binds X.K fd ps []) (hx : Passes CX X E) {A : Around} {pz : List (Addr × Obj)} {τ : L2.St} {H : Hp} {s : Shared} (sb : Sub X 2 A) (Nv : Inv X pz τ H s) {y : Addr} {fu b : Bool} {gs : List Pg} (hy : Yd K H y fu b gs) :
    wpAny (model X.prog X.w) A (eqBool (.ref y) .none) (fun r s' => r = false ∧ ∃ H', Inv X pz τ H' s' ∧ Ext H H') X.xe s := by
  subst hK
  unfold eqBool
  refine wpAny_holding (wpAny_ite_split (fun hab => absurd (eq_of_beq hab) nofun) fun _ => ?_)
  obtain ⟨dx, pa, la, h1, h2, h3⟩ := id hy
  obtain ⟨od, J⟩ := inst_of Nv h1
  obtain ⟨m, hF⟩ : ∃ m, Fr X.base X.env.locals s.heap m := Nv.fr
  have rc : wpAny (model X.prog X.w) A (richCompare .Eq (.ref y) .none) (fun v s' => v = .bool false ∧ ∃ H', Inv X pz τ H' s' ∧ Ext H H') X.xe s := by
    refine PySem.W.cmp_K (op := .Eq) (tb := .type "NoneType") sb.room.units0 hF Nv.ok.mod.kin J (PySem.W.Looks.of_pure rfl) ?_ (ow fu).at_ (ow fu).fn ?_
    · unfold PySem.W.notFirst
      rw [HN.sub_none]
      rfl
    · have e := Nv.env0
      have e0 : Env0 X.prog X.w X.K X.mg X.base A X.stack s H := ⟨by rw [sb.fr]; exact e.frames, e.mod, e.bs, e.bsz, e.funs, e.frf, e.hok, e.bare⟩
      have hsp : spEqN X.K [.ref y, .non] H (fun v H' => v = .bl false ∧ Ext H H') E := ⟨y, fu, b, gs, rfl, hy, fun H' x => ⟨rfl, x⟩⟩
      have hl := F.len _ _ _ _ hsp
      have b1 := hb s [.ref y, .none] Nv.kIn (by simpa using hl)
      rw [List.append_nil] at b1
      refine wpAny_call (codeAny_mono (F.run A X.stack s H ⟨[.ref y, .none], []⟩ [.ref y, .none] [.ref y, .non] _ E sb.room e0 b1 (.cons rfl (.cons rfl .nil)) hsp) fun r s' hq => ?_)
      match r, hq with
      | .error e, hq => exact hx pz τ H s e s' Nv hq
      | .ok (.ret w), hq =>
        obtain ⟨z, H', I', rz, ez, ex⟩ := Nv.after hq
        subst ez
        cases rz
        exact ⟨rfl, H', I', ex⟩
      | .ok .next, hq => exact hq.elim
      | .ok .brk, hq => exact hq.elim
      | .ok .cont, hq => exact hq.elim
  refine wpAny_bind (wpAny_mono rc (fun v s' hv => ?_) fun _ _ x => x)
  obtain ⟨rfl, q⟩ := hv
  exact wpAny_truthy_bool ⟨rfl, q⟩
theorem op_noIn {CX : CXT} {E : XK} {fd : FuncData} {ps : List Str} (Y : Yrd K mg) (hK : X.K = K) {f : Addr} (ow : ∀ fu, Own K (kC K fu) "__eq__" f) (F : FnOk X.prog X.w X.K X.mg X.base CX 2 f fd ps (spEqN K)) (hb : Binds X.K fd ps []) (hx : Passes CX X E) (hr : Room 3 X.A) : OpR X (compareOp .In) (rNoIn K) := by
  intro pz s τ H x v uv uu Q Nv rx rv h
  obtain ⟨l, y, i, fu, b, gs, rfl, rfl, hl, hy, q⟩ := h
  cases rx
  cases rv
  refine noneIn l i (fun _ s' => ∃ H', Inv X pz τ H' s' ∧ Ext H H') (fun j s' ⟨H1, Nv1, e1⟩ => ?_) (fun s' ⟨H1, Nv1, e1⟩ => ⟨.bl false, H1, Nv1, rfl, q H1 (.ofExt e1)⟩) ⟨H, Nv, Ext.rfl'⟩
  obtain ⟨z, its, k, r, e⟩ := Nv1.hok l _ (e1 _ _ hl)
  have lz := r.length
  rw [List.length_replicate] at lz
  refine ⟨its.toArray, k, e, by rw [List.size_toArray, ← lz], fun hj => ?_⟩
  have hj' : j < its.length := by simpa using hj
  obtain ⟨u, hu, ru⟩ := r.get (i := j) (x := .ref y) (by rw [List.getElem?_replicate]; simp; omega)
  cases ru
  have ej : its.toArray[j] = .ref y := by
    have h1 := List.getElem?_eq_getElem hj'
    rw [hu] at h1
    simpa using (Option.some.inj h1).symm
  rw [ej]
  refine wpAny_mono (noneYd Y hK ow F hb hx (A := X.A.in1) ⟨hr.in1, rfl⟩ Nv1 (hy.up (.ofExt e1))) (fun r' s2 q2 => ?_) fun _ _ x => x
  obtain ⟨h1, H2, I2, e2⟩ := q2
  exact ⟨h1, H2, I2, e1.trans e2⟩

end
end TB
/-! things that a caller holds, told to a callee -/
namespace TB
open PySem PySem.Spec PyProof.Rows L2
/-- H and besides that the objects of m stand as they are -/
def addX (H : Hp) (m : Addr → Option Obj) : Hp := fun b => match m b with
  | some o => some (.ext fun h => h.get? b = some o)
  | none => H b
def delX (H : Hp) (m : Addr → Option Obj) : Hp := fun b => match m b with
  | some _ => none
  | none => H b
def Held (m : Addr → Option Obj) (H : Hp) : Prop := ∀ b o, m b = some o → H b = some (.ext fun h => h.get? b = some o)
section
variable {P : Program} {w : World} {H H' : Hp} {h : Heap} {a : Addr} {m : Addr → Option Obj} {outer : List Env} {s s' : Shared}
theorem addX_some {b : Addr} {o : Obj} (e : m b = some o) : addX H m b = some (.ext fun h => h.get? b = some o) := by unfold addX; rw [e]
theorem addX_none {b : Addr} (e : m b = none) : addX H m b = H b := by unfold addX; rw [e]
theorem delX_some {b : Addr} {o : Obj} (e : m b = some o) : delX H m b = none := by unfold delX; rw [e]
theorem delX_none {b : Addr} (e : m b = none) : delX H m b = H b := by unfold delX; rw [e]
theorem held_add : Held m (addX H m) := fun b o e => addX_some e
theorem paired_to {α β : Type} {R S : α → β → Prop} (f : ∀ x y, R x y → S x y) : ∀ {xs : List α} {ys : List β}, Paired R xs ys → Paired S xs ys
  | _, _, .nil => .nil
  | _, _, .cons a r => .cons (f _ _ a) (paired_to f r)
theorem objOk_mv (hm : ∀ b u, H b = some u → (∀ φ, u ≠ .ext φ) → H' b = some u) : ∀ {o : HO}, ObjOk P w H h a o → ObjOk P w H' h a o
  | .lst _, x => x
  | .tup _, x => x
  | .dK _, x => x
  | .dT kvs, ⟨z1, z2, xs, z3, z4⟩ => ⟨z1, z2, xs, paired_to (fun p q ⟨e1, e2, e3⟩ => ⟨e1, hm _ _ e2 (fun φ z => nomatch z), e3⟩) z3, z4⟩
  | .set _ _, x => x
  | .ins _ _ _, ⟨z1, z2⟩ => ⟨hm _ _ z1 (fun φ z => nomatch z), z2⟩
  | .own _, x => x
  | .xd _, x => x
  | .met _ _, x => x
  | .rng _ _, x => x
  | .frz _ u, ⟨z1, z2⟩ => ⟨z1, objOk_mv hm z2⟩
  | .tbl _, x => x
  | .ext _, x => x
theorem hok_add (hk : HOk P w H h) (hm : ∀ b o, m b = some o → h.get? b = some o ∧ H b = none) : HOk P w (addX H m) h := fun b u e => by
  cases q : m b with
  | some o =>
    rw [addX_some q] at e
    cases e
    exact ⟨(hm b o q).1, ⟨o, (hm b o q).1⟩, fun h1 h2 e1 k => k o e1⟩
  | none =>
    rw [addX_none q] at e
    refine objOk_mv (fun c v ec _ => ?_) (hk b u e)
    cases qc : m c with
    | some o => rw [(hm c o qc).2] at ec; cases ec
    | none => rw [addX_none qc]; exact ec
theorem hok_del (hk : HOk P w H h) (hm : Held m H) : HOk P w (delX H m) h := fun b u e => by
  cases q : m b with
  | some o => rw [delX_some q] at e; cases e
  | none =>
    rw [delX_none q] at e
    refine objOk_mv (fun c v ec n => ?_) (hk b u e)
    cases qc : m c with
    | some o =>
      rw [hm c o qc] at ec
      cases ec
      exact absurd rfl (n _)
    | none => rw [delX_none qc]; exact ec
theorem held_get (hk : HOk P w H h) (hm : Held m H) {b : Addr} {o : Obj} (e : m b = some o) : h.get? b = some o := (hk b _ (hm b o e)).1
theorem add_is {b : Addr} (n : H b = none) (q : m b = none) : addX H m b = none := by rw [addX_none q]; exact n
theorem add_of {b : Addr} {u : HO} (hm : ∀ b o, m b = some o → h.get? b = some o ∧ H b = none) (e : H b = some u) : m b = none ∧ addX H m b = some u := by
  cases q : m b with
  | some o => rw [(hm b o q).2] at e; cases e
  | none => exact ⟨rfl, by rw [addX_none q]; exact e⟩
/-- a call's end, told without what was held -/
theorem ce_add {Q : VK} {u : Value} (hm : ∀ b o, m b = some o → s.heap.get? b = some o ∧ H b = none) (c : CE outer P w (addX H m) s (fun v H' => Held m H' ∧ Q v (delX H' m)) u s') : CE outer P w H s Q u s' := by
  obtain ⟨v, H1, os, bare, un, hok, r, hl, q⟩ := c
  refine ⟨v, delX H1 m, os, bare, ⟨fun b o e n hb hx => ?_, fun b o e n hb hx => ?_, fun b o e n hx => ?_, fun b o e hx => un.there b o e hx, fun b xs e => ?_, fun b o v e => ?_, fun b ps e => ?_⟩, hok_del hok hl, r, q⟩
  · cases z : m b with
    | some o1 =>
      have e1 := (hm b o1 z).1
      rw [e] at e1
      cases e1
      exact held_get hok hl z
    | none => exact un.keep b o e (add_is n z) hb hx
  · cases z : m b with
    | some o1 =>
      have e1 := (hm b o1 z).1
      rw [e] at e1
      cases e1
      exact ⟨o.slots, held_get hok hl z⟩
    | none => exact un.slot b o e (add_is n z) hb hx
  · cases z : m b with
    | some o1 => exact delX_some z
    | none => rw [delX_none z]; exact un.free b o e (add_is n z) hx
  · obtain ⟨z, e1⟩ := add_of hm e
    rw [delX_none z]; exact un.tups b xs e1
  · obtain ⟨z, e1⟩ := add_of hm e
    rw [delX_none z]; exact un.frzs b o v e1
  · obtain ⟨z, e1⟩ := add_of hm e
    rw [delX_none z]; exact un.tbls b ps e1
/-- the same of an error -/
theorem cx_add {E : XK} {u : Value} (hm : ∀ b o, m b = some o → s.heap.get? b = some o ∧ H b = none) (c : L2.CX P w outer (addX H m) s (fun cl d H' => Held m H' ∧ E cl d (delX H' m)) u s') : L2.CX P w outer H s E u s' := by
  obtain ⟨a, B, H1, cls, d, eu, fl, hok, ub, na, os, bare, hl, q⟩ := c
  refine ⟨a, B, delX H1 m, cls, d, eu, fl, hok_del hok hl, ⟨fun b o e n hb => ?_, ub.slot, fun b o e n => ?_, ub.there, fun b xs e => ?_, fun b o v e => ?_, fun b ps e => ?_⟩, ?_, os, bare, q⟩
  · cases z : m b with
    | some o1 =>
      have e1 := (hm b o1 z).1
      rw [e] at e1
      cases e1
      exact held_get hok hl z
    | none => exact ub.keep b o e (add_is n z) hb
  · cases z : m b with
    | some o1 => exact delX_some z
    | none => rw [delX_none z]; exact ub.free b o e (add_is n z)
  · obtain ⟨z, e1⟩ := add_of hm e
    rw [delX_none z]; exact ub.tups b xs e1
  · obtain ⟨z, e1⟩ := add_of hm e
    rw [delX_none z]; exact ub.frzs b o v e1
  · obtain ⟨z, e1⟩ := add_of hm e
    rw [delX_none z]; exact ub.tbls b ps e1
  · cases z : m a with
    | some o1 => exact delX_some z
    | none => rw [delX_none z]; exact na
end
end TB
namespace TB
open PySem PySem.Spec PyProof.Rows L2
section
variable {P : Program} {w : World} {H H' : Hp} {h : Heap} {a : Addr} {m : Addr → Option Obj} {outer : List Env} {s s' : Shared}
theorem held_none (hl : Held m H) {b : Addr} (n : H b = none) : m b = none := by
  cases z : m b with
  | none => rfl
  | some o => rw [hl b o z] at n; cases n
theorem del_is (hl : Held m H) {b : Addr} (n : H b = none) : delX H m b = none := by rw [delX_none (held_none hl n)]; exact n
theorem del_of (hl : Held m H) {b : Addr} {u : HO} (e : H b = some u) (hu : ∀ φ, u ≠ .ext φ) : m b = none ∧ delX H m b = some u := by
  cases z : m b with
  | none => exact ⟨rfl, by rw [delX_none z]; exact e⟩
  | some o =>
    rw [hl b o z] at e
    cases e
    exact absurd rfl (hu _)
theorem nfr (hl : Held m H) (hf : ∀ b ∈ frs outer, H b = none) {b : Addr} {o : Obj} (z : m b = some o) : b ∉ frs outer := fun q => by
  have := hf b q
  rw [hl b o z] at this
  cases this
/-- a call that is not told of what is held -/
theorem ce_del {Q : VK} {u : Value} (hk : HOk P w H s.heap) (hl : Held m H) (hf : ∀ b ∈ frs outer, H b = none) (c : CE outer P w (delX H m) s (fun v H' => Q v (addX H' m)) u s') : CE outer P w H s Q u s' := by
  obtain ⟨v, H1, os, bare, un, hok, r, q⟩ := c
  refine ⟨v, addX H1 m, os, bare, ⟨fun b o e n hb hx => un.keep b o e (del_is hl n) hb hx, fun b o e n hb hx => un.slot b o e (del_is hl n) hb hx, fun b o e n hx => ?_, un.there, fun b xs e => ?_, fun b o v e => ?_, fun b ps e => ?_⟩, hok_add hok fun b o z => ?_, r, q⟩
  · rw [addX_none (held_none hl n)]; exact un.free b o e (del_is hl n) hx
  · obtain ⟨z, e1⟩ := del_of hl e (fun φ z => nomatch z)
    rw [addX_none z]; exact un.tups b xs e1
  · obtain ⟨z, e1⟩ := del_of hl e (fun φ z => nomatch z)
    rw [addX_none z]; exact un.frzs b o v e1
  · obtain ⟨z, e1⟩ := del_of hl e (fun φ z => nomatch z)
    rw [addX_none z]; exact un.tbls b ps e1
  · have e := held_get hk hl z
    exact ⟨un.keep b o e (delX_some z) (nfr hl hf z) (by simp), un.free b o e (delX_some z) (by simp)⟩
theorem cx_del {E : XK} {u : Value} (hk : HOk P w H s.heap) (hl : Held m H) (hf : ∀ b ∈ frs outer, H b = none) (c : L2.CX P w outer (delX H m) s (fun cl d H' => E cl d (addX H' m)) u s') : L2.CX P w outer H s E u s' := by
  obtain ⟨a, B, H1, cls, d, eu, fl, hok, ub, na, os, bare, q⟩ := c
  have hB : ∀ b o, m b = some o → B.get? b = some o ∧ H1 b = none := fun b o z => by
    have e := held_get hk hl z
    exact ⟨ub.keep b o e (delX_some z) (nfr hl hf z), ub.free b o e (delX_some z)⟩
  refine ⟨a, B, addX H1 m, cls, d, eu, fl, hok_add hok hB, ⟨fun b o e n hb => ub.keep b o e (del_is hl n) hb, ub.slot, fun b o e n => ?_, ub.there, fun b xs e => ?_, fun b o v e => ?_, fun b ps e => ?_⟩, ?_, os, bare, q⟩
  · rw [addX_none (held_none hl n)]; exact ub.free b o e (del_is hl n)
  · obtain ⟨z, e1⟩ := del_of hl e (fun φ z => nomatch z)
    rw [addX_none z]; exact ub.tups b xs e1
  · obtain ⟨z, e1⟩ := del_of hl e (fun φ z => nomatch z)
    rw [addX_none z]; exact ub.frzs b o v e1
  · obtain ⟨z, e1⟩ := del_of hl e (fun φ z => nomatch z)
    rw [addX_none z]; exact ub.tbls b ps e1
  · cases z : m a with
    | none => rw [addX_none z]; exact na
    | some o =>
      have e := (hB a o z).1
      rw [fl.2.1] at e
      cases e
end
end TB
/-! the lambda of the law -/
namespace TB
open PySem PySem.Spec PyProof.Rows L2 NdefX LamX
section
variable {P : Program} {w : World} {K : PySem.W.Frag} {mg : Str → Option Value} {base : Heap}
/-- a lambda with parameters is called -/
theorem lamRun {N ps fr : List Str} {F : NF} {params : Arguments} {be : Expr} {pm ctv : Value} {f : Addr} {k : Nat} {te : TE} {A : Around} {os : List Env} {s : Shared} {H : Hp} {us : List Value} {xs : List V} {ws : List (Option V)} {Q : VK} {E : XK} (S : NScope N ps fr F.scope) (hr : Room (k + 1) A) (e0 : Env0 P w K mg base A os s H)
    (ho : s.heap.get? f = some (PySem.W.kla_obj F.name F.qual params be F.scope F.cl pm F.c ctv)) (hc : s.heap.CodeRec (.ref F.c) F.qual) (C : CellsAt F.cl fr ws s.heap H) (hbd : bindArgs (PySem.W.kla_fn F.name F.qual params be F.scope F.cl pm (.ref F.c) ctv) ⟨us, []⟩ = pure (ps.zip us)) (r : Vals xs us) (hl : xs.length = ps.length)
    (hb : PE (ncx (L2.CX P w) P w K mg base N F f A os s H E) be te) (ht : te (startF N xs ws) H Q) : codeAny (model P w) A (.call (.ref f) ⟨us, []⟩) (CR (L2.CX P w) os P w H s Q E) s := by
  have noLim : s.heap.NoLimit := e0.mod.nolimit.keeps fun b o z => (e0.bs b o z).1
  refine PySem.W.kla_callFunE hr.depth ho rfl S.co S.gen rfl hc ?_
  rw [hbd]
  refine wpAny_pure (wpAny_newFunctionEnv S.nocell (fun q hq => S.par q.1 (List.of_mem_zip (a := q.1) (b := q.2) hq).1) (fun hh hns hsb => ⟨noLim.fresh _ hsb, ?_⟩) S.kind)
  show codeAny _ _ (.expr be (envF F f s.heap.objs.size)) _ _
  have kp : ∀ b o, s.heap.get? b = some o → hh.get? b = some o := fun b o z => hsb.extBut b o (Nat.ne_of_lt (Heap.lt_size z)) (Heap.get?_push_of_some _ z)
  have I := inv_startN (CX := L2.CX P w) (P := P) (w := w) (K := K) (mg := mg) (base := base) (E := E) (f := f) (tk := s.toks + (ps.zip us).length) S hr.hd e0 hl r C hns kp
  refine PySem.W.kla_codeExpr (wpAny_mono (hb.run [] _ _ H Q I ht) (fun v s' hq => ?_) fun _ _ hq => hq)
  obtain ⟨w', H', J, rv, q⟩ := hq
  exact ⟨w', H', J.os, J.bare, J.base, J.hok, rv, q⟩
end
/-! ### all stays but tables and what stands at l -/
structure KpT (l : List Addr) (H H' : Hp) : Prop where
  keep : ∀ b o, H b = some o → b ∉ l → (∀ ps, o ≠ .tbl ps) → H' b = some o
  tup : ∀ b xs, H b = some (.tup xs) → H' b = some (.tup xs)
  frz : ∀ b o u, H b = some (.frz o u) → H' b = some (.frz o u)
section
variable {l : List Addr} {H H1 H2 : Hp} {K : PySem.W.Frag}
theorem Kp.t (k : Kp l H H1) : KpT l H H1 := ⟨fun b o e n _ => k.keep b o e n, k.tup, k.frz⟩
theorem KpT.trans (a : KpT l H H1) (b : KpT l H1 H2) : KpT l H H2 := ⟨fun c o e n t => b.keep c o (a.keep c o e n t) n t, fun c x e => b.tup c x (a.tup c x e), fun c o u e => b.frz c o u (a.frz c o u e)⟩
theorem KpT.ofN (e : ExtN H H1) : KpT l H H1 := ⟨fun b o h _ t => e b o h t, fun b x h => e b _ h (fun ps z => nomatch z), fun b o u h => e b _ h (fun ps z => nomatch z)⟩
theorem KpT.sqT (k : KpT l H H1) {a : Addr} {xs : List V} (h : SqT K H a xs) : SqT K H1 a xs := by
  rcases h with (h | ⟨o, h⟩) | h
  · exact .inl (.inl (k.tup a xs h))
  · exact .inl (.inr ⟨o, k.frz a o _ h⟩)
  · exact .inr h
mutual
theorem Im.kpT (k : KpT l H H1) : ∀ {v : V} {d : PyData}, Im K H v d → Im K H1 v d
  | _, _, .non => .non
  | _, _, .bl b => .bl b
  | _, _, .int i => .int i
  | _, _, .str x => .str x
  | _, _, .tup h r => .tup (k.sqT h) (ImAll.kpT k r)
theorem ImAll.kpT (k : KpT l H H1) : ∀ {vs : List V} {ds : List PyData}, ImAll K H vs ds → ImAll K H1 vs ds
  | _, _, .nil => .nil
  | _, _, .cons h r => .cons (Im.kpT k h) (ImAll.kpT k r)
end
theorem Yd.kpT {y : Addr} {fu b : Bool} {gs : List Pg} (k : KpT l H H1) (hy : y ∉ l) (h : Yd K H y fu b gs) : Yd K H1 y fu b gs := by
  obtain ⟨dx, pa, la, h1, h2, h3⟩ := h
  exact ⟨dx, pa, la, k.keep y _ h1 hy (fun ps z => nomatch z), h2.kpT k, h3.kpT k⟩
theorem KpT.lst {p : Addr} {xs : List V} (k : KpT l H H1) (h : H p = some (.lst xs)) (hp : p ∉ l) : H1 p = some (.lst xs) := k.keep p _ h hp (fun ps z => nomatch z)
/-- the tables stay where only instances and lists change -/
theorem Tabs.kp {T : List (Addr × Str)} (t : Tabs T H) (k : Kp l H H1) (hl : ∀ b ∈ l, (∀ φ, H b ≠ some (.ext φ)) ∧ ∀ ps, H b ≠ some (.tbl ps)) : Tabs T H1 := fun p hp => by
  obtain ⟨ps, h1, h2, h3⟩ := t p hp
  refine ⟨ps, k.keep _ _ h1 (fun z => (hl _ z).2 _ h1), h2, fun pos cv hc => ?_⟩
  obtain ⟨c, e1, e2⟩ := h3 pos cv hc
  exact ⟨c, e1, k.keep _ _ e2 (fun z => (hl _ z).1 _ e2)⟩
end
/-! ### what the lambda holds -/
/-- its cells as they stand in m -/
structure CapM (cl : List (Str × Addr)) (fr : List Str) (ws : List (Option V)) (m : Addr → Option Obj) : Prop where
  len : ws.length = fr.length
  all : ∀ y c, cl.lookup y = some c → ∃ o v, m c = some o ∧ o.data = .cell v
  inj : ∀ x y c, cl.lookup x = some c → cl.lookup y = some c → x = y
  has : ∀ (i : Nat) (y : Str), fr[i]? = some y → ∃ c, cl.lookup y = some c ∧ ∀ v, ws[i]? = some (some v) → ∃ u o, L2.RelV v u ∧ m c = some o ∧ o.data = .cell (some u)
theorem CapM.at {cl : List (Str × Addr)} {fr : List Str} {ws : List (Option V)} {m : Addr → Option Obj} {h : Heap} {H : Hp} (C : CapM cl fr ws m) (hm : ∀ b o, m b = some o → h.get? b = some o ∧ H b = none) : CellsAt cl fr ws h H where
  len := C.len
  all := fun y c e => by
    obtain ⟨o, v, h1, h2⟩ := C.all y c e
    exact ⟨(hm c o h1).2, v, o, (hm c o h1).1, h2⟩
  inj := C.inj
  has := fun i y e => by
    obtain ⟨c, h1, h2⟩ := C.has i y e
    refine ⟨c, h1, fun v hv => ?_⟩
    obtain ⟨u, o, r, h3, h4⟩ := h2 v hv
    exact ⟨u, r, o, (hm c o h3).1, h4⟩
section
variable {l : List Addr} {H H1 H2 : Hp} {K : PySem.W.Frag} {m : Addr → Option Obj}
theorem kpDel (hl : Held m H) (hm : ∀ b o, m b = some o → b ∈ l) : Kp l H (delX H m) where
  keep := fun b o e n => by
    cases z : m b with
    | some o1 => exact absurd (hm b o1 z) n
    | none => rw [delX_none z]; exact e
  tup := fun b xs e => (del_of hl e (fun φ z => nomatch z)).2
  frz := fun b o u e => (del_of hl e (fun φ z => nomatch z)).2
theorem kpBack {s : List Addr} (hl : Held m H) (k : Kp s (delX H m) H1) : Kp s H (addX H1 m) where
  keep := fun b o e n => by
    cases z : m b with
    | some o1 =>
      rw [hl b o1 z] at e
      rw [addX_some z]
      exact e
    | none =>
      rw [addX_none z]
      exact k.keep b o (by rw [delX_none z]; exact e) n
  tup := fun b xs e => by
    obtain ⟨z, e1⟩ := del_of hl e (fun φ z => nomatch z)
    rw [addX_none z]
    exact k.tup b xs e1
  frz := fun b o u e => by
    obtain ⟨z, e1⟩ := del_of hl e (fun φ z => nomatch z)
    rw [addX_none z]
    exact k.frz b o u e1
theorem kpAdd (hm : ∀ b o, m b = some o → H b = none) : Kp l H (addX H m) where
  keep := fun b o e _ => by
    cases z : m b with
    | some o1 => rw [hm b o1 z] at e; cases e
    | none => rw [addX_none z]; exact e
  tup := fun b xs e => by
    cases z : m b with
    | some o1 => rw [hm b o1 z] at e; cases e
    | none => rw [addX_none z]; exact e
  frz := fun b o u e => by
    cases z : m b with
    | some o1 => rw [hm b o1 z] at e; cases e
    | none => rw [addX_none z]; exact e
theorem Held.kp (hl : Held m H) (k : Kp l H H1) (hn : ∀ b ∈ l, m b = none) : Held m H1 := fun b o z => k.keep b _ (hl b o z) (fun q => by rw [hn b q] at z; cases z)
end
section
variable {P : Program} {w : World} {K : PySem.W.Frag} {mg : Str → Option Value} {base : Heap}
abbrev frL : List Str := ["_law_yard", "_law_seen", "_law_plan", "_law_last"]
abbrev nmL : List Str := ["_law_held", "_law_yard", "_law_seen", "_law_plan", "_law_last"]
/-- what the lambda promises, where m stands as it was when it was made -/
def spLam (K : PySem.W.Frag) (m : Addr → Option Obj) (F : NF) : Sp := fun vs H Q E => ∃ (y sn pl : Addr) (fu f : Bool) (n i : Nat) (g0 sts : List Pg) (last : Int), vs = [.ref y] ∧ Held m H ∧ H F.c = some (CodeO F.c F.qual) ∧
  CapM F.cl frL [some (.ref y), some (.ref sn), some (.ref pl), some (.int last)] m ∧ StpP K H y sn pl fu f n i g0 sts ∧
  ∀ H', Kp [sn] H H' → H' sn = some (.lst (List.replicate (i + 1) (.ref y))) → (((i + 1 : Nat) : Int) = last → ∀ d, E (.type "KeyError") d H') ∧ (((i + 1 : Nat) : Int) ≠ last → Q .non H')
theorem lamG {F : NF} {params : Arguments} {be : Expr} {pm ctv : Value} {lf : Addr} {lm : List Addr} {m : Addr → Option Obj} (S : NScope nmL ["_law_held"] frL F.scope) (hlf : m lf = some (PySem.W.kla_obj F.name F.qual params be F.scope F.cl pm F.c ctv)) (h1 : ∀ b o, m b = some o → b ∈ lm) (h2 : ∀ b ∈ lm, ∃ o, m b = some o)
    (hbd : ∀ u : Value, bindArgs (PySem.W.kla_fn F.name F.qual params be F.scope F.cl pm (.ref F.c) ctv) ⟨[u], []⟩ = pure [(("_law_held" : Str), u)])
    (hbe : ∀ (A : Around) (os : List Env) (s : Shared) (H : Hp) (E : XK), Room 18 (A.deeper (envF F lf s.heap.objs.size)) → Gz (A.deeper (envF F lf s.heap.objs.size)) → PE (ncx (L2.CX P w) P w K mg base nmL F lf A os s H E) be (tCall (sp_law_step K) [] E (tCons (tVar 0) (tCons (tVar 1) (tCons (tVar 2) (tCons (tVar 3) (tCons (tVar 4) tNil))))))) :
    GR1 P w K mg base (L2.CX P w) 19 lf (spLam K m F) := by
  intro A os s H us xs Q E hr hG e0 r hsp
  obtain ⟨y, sn, pl, fu, f, n, i, g0, sts, last, rfl, hl, hco, C, hs, k⟩ := hsp
  have hok := e0.hok
  have e1 : Env0 P w K mg base A os s (delX H m) := ⟨e0.frames, e0.mod, fun b o z => ⟨(e0.bs b o z).1, del_is hl (e0.bs b o z).2⟩, e0.bsz, e0.funs, fun b hb => del_is hl (e0.frf b hb), hok_del hok hl, e0.bare⟩
  have hm : ∀ b o, m b = some o → s.heap.get? b = some o ∧ delX H m b = none := fun b o z => ⟨held_get hok hl z, delX_some z⟩
  have kd := kpDel hl h1
  obtain ⟨u, us', eu⟩ : ∃ u us', us = u :: us' := by
    cases r with
    | cons a b => exact ⟨_, _, rfl⟩
  subst eu
  have r0 := r
  cases r with
  | cons ru rr =>
  cases rr
  have notIn : ∀ {b : Addr} {o : HO}, H b = some o → (∀ φ, o ≠ .ext φ) → b ∉ lm := fun {b o} e n hb => by
    obtain ⟨ob, z⟩ := h2 b hb
    rw [hl b ob z] at e
    cases e
    exact n _ rfl
  obtain ⟨hy0, hg, q0, qi, ql, ⟨p0, p1, xs0, xs1, a1, a2, a3, i0, i1⟩, hsn⟩ := hs
  obtain ⟨dx, pa, la, b1, b2, b3⟩ := id hy0
  have stp : StpP K (delX H m) y sn pl fu f n i g0 sts := ⟨hy0.kp kd (notIn b1 (fun φ z => nomatch z)), hg, q0, qi, ql,
    ⟨p0, p1, xs0, xs1, (del_of hl a1 (fun φ z => nomatch z)).2, (del_of hl a2 (fun φ z => nomatch z)).2, (del_of hl a3 (fun φ z => nomatch z)).2, i0.kp kd, i1.kp kd⟩, (del_of hl hsn (fun φ z => nomatch z)).2⟩
  have snm := (del_of hl hsn (fun φ z => nomatch z)).1
  have run := lamRun (Q := fun v H' => Q v (addX H' m)) (E := fun cl d H' => E cl d (addX H' m)) S hr e1 (held_get hok hl hlf) (codeO_at hok hco) (C.at hm) (hbd u) r0 rfl (hbe A os s (delX H m) _ (hr.deeper _) (hG.deep _))
    ⟨_, rfl, _, rfl, _, rfl, _, rfl, _, rfl, y, sn, pl, fu, f, n, i, g0, sts, last, rfl, stp, fun H' k' h' => by
      have kb := kpBack hl k'
      have e := k _ kb (by rw [addX_none snm]; exact h')
      exact ⟨fun z d => e.1 z d, fun z => e.2 z⟩⟩
  refine codeAny_mono run fun z s' hq => ?_
  match z, hq with
  | .error e, hq => exact cx_del hok hl e0.frf hq
  | .ok (.ret v), hq => exact ce_del hok hl e0.frf hq
  | .ok .next, hq => exact hq.elim
  | .ok .brk, hq => exact hq.elim
  | .ok .cont, hq => exact hq.elim
end
end TB
/-! the lambda is made; what it holds
The steps follow those of the library: HandS.Lambda. -/
namespace TB
open PySem PySem.Spec PyProof.Rows L2 NdefX LamX
section
variable {X : Cx} {pins : List (Addr × Obj)} {σ : L2.St} {H : Hp} {s : Shared}
abbrev lamQ (X : Cx) : Str := X.env.qual ++ "<lambda>"
abbrev lamCl (X : Cx) (sc : Scope) : List (Str × Addr) := cloFrom X.env.cells sc.names []
/-- a lambda is made, its table is the one at P; it lies above all that was -/
theorem lamMk {c P : Addr} {pr : Arguments} {be : Expr} {sc : Scope} {lp : Pos} {E : Value → Shared → Prop} {Q : Value → Shared → Prop} (I : Inv X pins σ H s) (tb : TabB X.base X.mg c P) (hco : X.env.code = .ref c) (tH : TabS H P (lamQ X)) (hdf : defaultsOf pr X.env = ([], [])) (hfr : ∀ y ∈ sc.names, y.2 = .free → ∃ c, X.env.cells.lookup y.1 = some c)
    (k : ∀ (f e : Addr) (pm ctv : Value) (H1 : Hp) (s1 : Shared), Inv X pins σ H1 s1 → ExtN H H1 → TabS H1 P (lamQ X) → s1.heap.get? f = some (PySem.W.kla_obj "<lambda>" (lamQ X) pr be sc (lamCl X sc) pm e ctv) → H1 f = none → s.heap.objs.size ≤ f → H1 e = some (CodeO e (lamQ X)) → Q (.ref f) s1) :
    wpAny (model X.prog X.w) X.A (eval (.Lambda pr be sc lp) X.env) Q E s := by
  obtain ⟨qs, tP, tOk, tAll⟩ := tH
  refine PySem.W.kla_eval hdf ?_
  have blt := tb.bm.keeps I.bk
  have getP : s.heap.get? P = some { cls := .none, data := .fields qs } := I.hok P _ tP
  cases amg : codeAmong lp qs.toList with
  | some cv =>
    obtain ⟨e, ecv, codeE⟩ := tAll lp cv amg
    subst ecv
    refine PySem.W.kla_makeFunctionHit (mg := X.mg) (c := c) (P := P) (ps := qs) (closure_ok hfr) I.ok.glob (I.mod.glob.keeps I.bk) hco (tb.code.keeps I.bk) getP tOk amg blt fun ctv g tk up big => ?_
    exact k g.objs.size e _ ctv H _ (I.kept (t' := tk) fun b o z => Heap.get?_push_of_some _ (up b o z)) (ExtN.refl H) ⟨qs, tP, tOk, tAll⟩ (Heap.get?_push_size _ rfl) (I.hok.fresh big) big codeE
  | none =>
    refine PySem.W.kla_makeFunction (mg := X.mg) (c := c) (P := P) (ps := qs) (closure_ok hfr) I.ok.glob (I.mod.glob.keeps I.bk) hco (tb.code.keeps I.bk) getP tOk amg tb.gP blt fun e ctv g tk up new less rec tab => ?_
    obtain ⟨e2, oc, us, t, ee, g1, g2, g3⟩ := rec
    cases ee
    have big : s.heap.objs.size ≤ g.objs.size := Nat.le_trans new (Nat.le_of_lt less)
    have ne : H e = none := I.hok.fresh new
    have J := inv_table (t' := tk) (more := #[rawInt lp.line, rawInt lp.col, .ref e]) (h' := g.push (PySem.W.kla_obj "<lambda>" (lamQ X) pr be sc (lamCl X sc) ((X.mg "__name__").getD .none) e ctv)) I tP (fun b o nb z => Heap.get?_push_of_some _ (up b o nb z)) (Heap.get?_push_of_some _ tab) new ⟨oc, us, t, Heap.get?_push_of_some _ g1, g2, g3⟩
    have ext : ExtN H (upd (upd H P (.tbl (qs ++ #[rawInt lp.line, rawInt lp.col, .ref e]))) e (CodeO e (lamQ X))) := fun b o z nt => by
      have nb : b ≠ P := fun w => by
        rw [w, tP] at z
        exact nt qs (Option.some.inj z).symm
      rw [upd_ne (ne_of_none z ne), upd_ne nb]
      exact z
    have els : (qs ++ #[rawInt lp.line, rawInt lp.col, .ref e]).toList = qs.toList ++ [rawInt lp.line, rawInt lp.col, .ref e] := by simp
    refine k g.objs.size e _ ctv _ _ J ext ⟨_, (upd_ne (ne_of_none tP ne)).trans upd_same, els ▸ PySem.TriplesOk_snoc _ _ _ _ tOk, fun p cv z => ?_⟩ (Heap.get?_push_size _ rfl) ?_ big upd_same
    · rw [els] at z
      rcases among_app _ tOk z with z | z
      · obtain ⟨c0, z1, z2⟩ := tAll p cv z
        exact ⟨c0, z1, ext _ _ z2 codeO_ne⟩
      · exact ⟨e, z, upd_same⟩
    · rw [upd_ne (Nat.ne_of_gt less : g.objs.size ≠ e), upd_ne (Nat.ne_of_gt (Nat.lt_of_lt_of_le (Heap.lt_size getP) big) : g.objs.size ≠ P)]
      exact I.hok.fresh big
/-- the cells and the function as they stand -/
def holdM (s : Shared) (lm : List Addr) : Addr → Option Obj := fun b => if b ∈ lm then s.heap.get? b else none
theorem holdM_in {lm : List Addr} {b : Addr} {o : Obj} (h : holdM s lm b = some o) : b ∈ lm ∧ s.heap.get? b = some o := by
  unfold holdM at h
  split at h
  · exact ⟨‹_›, h⟩
  · cases h
theorem holdM_of {lm : List Addr} {b : Addr} {o : Obj} (h : b ∈ lm) (e : s.heap.get? b = some o) : holdM s lm b = some o := by
  unfold holdM
  rw [if_pos h]
  exact e
theorem clo_in {sc : Scope} (hfr : ∀ y ∈ sc.names, y.2 = .free → ∃ c, X.env.cells.lookup y.1 = some c) {y : Str} {c : Addr} (e : (y, c) ∈ lamCl X sc) : X.env.cells.lookup y = some c := by
  rcases cloFrom_mem e with hm | ⟨h1, h2⟩
  · cases hm
  · obtain ⟨c1, hc⟩ := hfr _ h1 rfl
    have hc : X.env.cells.lookup y = some c1 := hc
    rw [h2, hc]
    rfl
theorem capOf {sc : Scope} {fr : List Str} {ws : List (Option V)} {lm : List Addr} (I : Inv X pins σ H s) (hfr : ∀ y ∈ sc.names, y.2 = .free → ∃ c, X.env.cells.lookup y.1 = some c) (hlm : ∀ q ∈ lamCl X sc, q.2 ∈ lm) (hlen : ws.length = fr.length)
    (hn : ∀ (i : Nat) (y : Str), fr[i]? = some y → sc.names.lookup y = some .free ∧ X.env.scope.names.lookup y = some .cell ∧ ∃ j : Nat, X.N[j]? = some y ∧ ∀ v, ws[i]? = some (some v) → σ[j]? = some (some v)) : CapM (lamCl X sc) fr ws (holdM s lm) where
  len := hlen
  all := fun y c e => by
    have hin := PySem.mem_of_lookup e
    obtain ⟨v, o, h1, h2⟩ := I.cell y c (clo_in hfr hin)
    exact ⟨o, v, holdM_of (hlm _ hin) h1, h2⟩
  inj := fun x y c e1 e2 => I.ok.inj x y c (clo_in hfr (PySem.mem_of_lookup e1)) (clo_in hfr (PySem.mem_of_lookup e2))
  has := fun i y e => by
    obtain ⟨h1, h2, j, h3, h4⟩ := hn i y e
    obtain ⟨c, hc⟩ := mem_lookup (cloFrom_has (cells := X.env.cells) (acc := []) (PySem.mem_of_lookup h1))
    have hin := PySem.mem_of_lookup hc
    refine ⟨c, hc, fun v hv => ?_⟩
    obtain ⟨m, hns, hl⟩ := I.loc
    obtain ⟨u, r, q⟩ := hl j y v h3 (h4 v hv) (.inr (.inl h2))
    rcases q with ⟨k', _⟩ | ⟨_, c3, e', o, z1, z2⟩
    · have k' : X.env.scope.names.lookup y = some .local := k'
      rw [h2] at k'
      cases k'
    · rw [clo_in hfr hin] at e'
      cases e'
      exact ⟨u, o, r, holdM_of (hlm _ hin) z1, z2⟩
end
end TB
/-! the tried attempt with the lambda -/
namespace TB
open PySem PySem.Spec PyProof.Rows L2 NdefX LamX
/-- the pages that the edits put behind -/
def pgs : List Pg → List (Option (List Int)) → List Pg
  | _, [] => []
  | gs, o :: r => stp o (lastP gs) :: pgs (app1 gs o) r
theorem appN_pgs : ∀ (its : List (Option (List Int))) (gs : List Pg), appN gs its = gs ++ pgs gs its
  | [], gs => (List.append_nil gs).symm
  | o :: r, gs => by
    show appN (app1 gs o) r = _
    rw [appN_pgs r (app1 gs o)]
    unfold app1
    simp [pgs, app1]
theorem pgs_take : ∀ (its : List (Option (List Int))) (gs : List Pg) (j : Nat), pgs gs (its.take j) = (pgs gs its).take j
  | [], gs, j => by simp [pgs]
  | o :: r, gs, 0 => rfl
  | o :: r, gs, j + 1 => by simp [pgs, pgs_take r (app1 gs o) j]
theorem pgs_len : ∀ (its : List (Option (List Int))) (gs : List Pg), (pgs gs its).length = its.length
  | [], gs => rfl
  | o :: r, gs => by simp [pgs, pgs_len r (app1 gs o)]
section
variable {K : PySem.W.Frag} {H0 : Hp} {y p lf sn pl p0 p1 : Addr} {fu f : Bool} {n : Nat} {g0 : List Pg} {its : List (Option (List Int))} {xs xs0 xs1 : List V} {last : Int} {m : Addr → Option Obj} {F : NF} {fd : FuncData} {Q : VK} {E : XK}
theorem spTry (hy : Yd K H0 y fu false g0) (hp : H0 p = some (.lst xs)) (hx : ImAll K H0 xs (its.map itD)) (hg : Gd fu n f g0) (hi : ∀ o ∈ its, itOk n o) (h2 : g0.length = 2) (h3 : its.length = 3) (hpl : H0 pl = some (.lst [.ref p0, .ref p1, .str "same"])) (hp0 : H0 p0 = some (.lst xs0)) (hp1 : H0 p1 = some (.lst xs1))
    (i0 : ImAll K H0 xs0 ((pgs g0 its).map pageD)) (i1 : ImAll K H0 xs1 (g0.map pageD)) (hsn : H0 sn = some (.lst [])) (n1 : pl ≠ sn) (n2 : p0 ≠ sn) (n3 : p1 ≠ sn) (hl : Held m H0) (hlf : H0 lf = some (FnQ lf fd)) (hco : H0 F.c = some (CodeO F.c F.qual))
    (C : CapM F.cl frL [some (.ref y), some (.ref sn), some (.ref pl), some (.int last)] m) (l1 : 1 ≤ last)
    (kK : ∀ r H', Kp [y, sn] H0 H' → last < 4 → Yd K H' y fu false g0 → H' sn = some (.lst (List.replicate last.toNat (.ref y))) → H' r = some (.lst [.str "key"]) → Q (.ref r) H')
    (kO : ∀ r H', Kp [y, sn] H0 H' → 4 ≤ last → Yd K H' y fu false (appN g0 its) → H' sn = some (.lst (List.replicate 3 (.ref y))) → H' r = some (.lst [.str "ok", .int 4]) → Q (.ref r) H') : sp_tried K lf fd (spLam K m F) [.ref y, .ref p, .ref lf] H0 Q E := by
  obtain ⟨dx, pa, la, b1, b2, b3⟩ := id hy
  have ys : y ≠ sn := fun e => by rw [e, hsn] at b1; cases b1
  have out : ∀ {b : Addr} {o : HO}, H0 b = some o → (∀ C dx fs, o ≠ .ins C dx fs) → b ≠ sn → b ∉ [y, sn] := fun {b o} e ni ns hb => by
    rcases List.mem_cons.mp hb with z | hb
    · rw [z, b1] at e
      cases e
      exact ni _ _ _ rfl
    · exact ns (List.mem_singleton.mp hb)
  have lfn : lf ≠ sn := fun e => by rw [e, hsn] at hlf; cases hlf
  have con : F.c ≠ sn := fun e => by rw [e, hsn] at hco; cases hco
  have mn : ∀ b ∈ [y, sn], m b = none := fun b hb => by
    rcases List.mem_cons.mp hb with z | hb
    · rw [z]; exact (del_of hl b1 (fun φ w => nomatch w)).1
    · rw [List.mem_singleton.mp hb]; exact (del_of hl hsn (fun φ w => nomatch w)).1
  have ky : ∀ {H1 H2 : Hp}, Kp [y] H1 H2 → Kp [y, sn] H1 H2 := fun k => k.mono fun b hb => by rw [List.mem_singleton.mp hb]; simp
  have ks : ∀ {H1 H2 : Hp}, Kp [sn] H1 H2 → Kp [y, sn] H1 H2 := fun k => k.mono fun b hb => by rw [List.mem_singleton.mp hb]; simp
  have sny : sn ∉ [y] := fun h => ys (List.mem_singleton.mp h).symm
  refine ⟨y, p, fu, f, n, g0, xs, its, [y, sn], (fun i H' => Kp [y, sn] H0 H' ∧ Yd K H' y fu true (appN g0 (its.take i)) ∧ H' sn = some (.lst (List.replicate i (.ref y))) ∧ (i : Int) < last),
    (fun H' => Kp [y, sn] H0 H' ∧ ∃ i : Nat, i < 3 ∧ ((i + 1 : Nat) : Int) = last ∧ Yd K H' y fu true (appN g0 (its.take (i + 1))) ∧ H' sn = some (.lst (List.replicate (i + 1) (.ref y)))), rfl, hy, hp, hx, hg, hi, by omega, by omega, by simp, ?_, ?_, ?_, ?_, ?_, ?_, ?_⟩
  · exact fun i H' j => j.1.keep _ _ hlf (out hlf (fun _ _ _ z => nomatch z) lfn)
  · exact fun H1 k y1 => ⟨ky k, y1, k.keep _ _ hsn sny, by omega⟩
  · exact fun i H' j => ⟨j.1, j.2.1⟩
  · exact fun i H' H2 j k => ⟨j.1.trans k.up, j.2.1.up k, k.get j.2.2.1, j.2.2.2⟩
  · intro i H1 hi1 j H2 k2 y2
    have k02 := j.1.trans (ky k2)
    have s2 := k2.keep _ _ j.2.2.1 sny
    refine ⟨k02.keep _ _ hlf (out hlf (fun _ _ _ z => nomatch z) lfn), fun Q1 E1 q1 e1 => ?_⟩
    have eg : appN g0 (its.take (i + 1)) = g0 ++ (pgs g0 its).take (i + 1) := by rw [appN_pgs, pgs_take]
    have gi := hg.appN (its := its.take (i + 1)) (fun o ho => hi o (List.mem_of_mem_take ho)) (by rw [List.length_take]; omega)
    refine ⟨y, sn, pl, fu, f, n, i, g0, pgs g0 its, last, rfl, hl.kp k02 mn, k02.keep _ _ hco (out hco (fun _ _ _ z => nomatch z) con), C, ⟨eg ▸ y2, eg ▸ gi, by omega, by rw [pgs_len]; exact hi1, by rw [pgs_len]; omega,
      ⟨p0, p1, xs0, xs1, k02.keep _ _ hpl (out hpl (fun _ _ _ z => nomatch z) n1), k02.keep _ _ hp0 (out hp0 (fun _ _ _ z => nomatch z) n2), k02.keep _ _ hp1 (out hp1 (fun _ _ _ z => nomatch z) n3), i0.kp k02, i1.kp k02⟩, s2⟩, fun H' k' h' => ⟨fun e d => ?_, fun e => ?_⟩⟩
    · exact e1 d H' ⟨k02.trans (ks k'), i, by omega, e, y2.kp k' (fun h => ys (List.mem_singleton.mp h)), h'⟩ (ks k')
    · have := j.2.2.2
      exact q1 .non H' ⟨k02.trans (ks k'), y2.kp k' (fun h => ys (List.mem_singleton.mp h)), h', by omega⟩ (ks k')
  · rintro H3 ⟨k3, i, hi3, e, y3, s3⟩
    refine ⟨k3, ⟨_, y3⟩, fun r H' k' y' hr => kK r H' (k3.trans (ky k')) (by omega) y' ?_ hr⟩
    have el : last.toNat = i + 1 := by omega
    rw [el]
    exact k'.keep _ _ s3 sny
  · intro H1 j r H' k' y' hr
    have e4 : (g0.length : Int) + (its.length : Int) - 1 = 4 := by omega
    rw [e4] at hr
    have s1 := j.2.2.1
    have l4 := j.2.2.2
    rw [h3] at s1 l4
    exact kO r H' (j.1.trans (ky k')) (by omega) y' (k'.keep _ _ s1 sny) hr
end
end TB
/-! the tried attempt, asked with a lambda -/
namespace TB
open PySem PySem.Spec PyProof.Rows L2 NdefX LamX
section
variable {P : Program} {w : World} {H H' : Hp} {h : Heap} {m : Addr → Option Obj} {l : List Addr} {K : PySem.W.Frag}
theorem kpOut (hm : ∀ b o, m b = some o → H b = none) (k : Kp l (addX H m) H') : Kp l H (delX H' m) := by
  have at_ : ∀ {b : Addr} {o : HO}, H b = some o → m b = none := fun {b o} e => by
    cases z : m b with
    | none => rfl
    | some o1 => rw [hm b o1 z] at e; cases e
  exact ⟨fun b o e n => by rw [delX_none (at_ e)]; exact k.keep b o (by rw [addX_none (at_ e)]; exact e) n, fun b xs e => by rw [delX_none (at_ e)]; exact k.tup b xs (by rw [addX_none (at_ e)]; exact e),
    fun b o u e => by rw [delX_none (at_ e)]; exact k.frz b o u (by rw [addX_none (at_ e)]; exact e)⟩
end
/-- what the tried attempt with the lambda leaves -/
def tTr (K : PySem.W.Frag) (P : Addr) (q : Str) (iy ip js il jt : Nat) : TE := fun σ H Q => TabS H P q ∧ ∃ (y p sn pl p0 p1 : Addr) (fu f : Bool) (n : Nat) (g0 : List Pg) (its : List (Option (List Int))) (xs xs0 xs1 : List V) (last : Int),
  σ[iy]? = some (some (.ref y)) ∧ σ[ip]? = some (some (.ref p)) ∧ σ[js]? = some (some (.ref sn)) ∧ σ[il]? = some (some (.ref pl)) ∧ σ[jt]? = some (some (.int last)) ∧
  Yd K H y fu false g0 ∧ H p = some (.lst xs) ∧ ImAll K H xs (its.map itD) ∧ Gd fu n f g0 ∧ (∀ o ∈ its, itOk n o) ∧ g0.length = 2 ∧ its.length = 3 ∧
  H pl = some (.lst [.ref p0, .ref p1, .str "same"]) ∧ H p0 = some (.lst xs0) ∧ H p1 = some (.lst xs1) ∧ ImAll K H xs0 ((pgs g0 its).map pageD) ∧ ImAll K H xs1 (g0.map pageD) ∧ H sn = some (.lst []) ∧ pl ≠ sn ∧ p0 ≠ sn ∧ p1 ≠ sn ∧ 1 ≤ last ∧
  (∀ r H', KpT [y, sn] H H' → TabS H' P q → last < 4 → Yd K H' y fu false g0 → H' sn = some (.lst (List.replicate last.toNat (.ref y))) → H' r = some (.lst [.str "key"]) → Q (.ref r) H') ∧
  (∀ r H', KpT [y, sn] H H' → TabS H' P q → 4 ≤ last → Yd K H' y fu false (appN g0 its) → H' sn = some (.lst (List.replicate 3 (.ref y))) → H' r = some (.lst [.str "ok", .int 4]) → Q (.ref r) H')
section
variable {X : Cx}
theorem peTried {c PT : Addr} {lq : Str} {iy ip js il jt : Nat} {pr : Arguments} {sc : Scope} {p0 p1 p2 pos lp q0 q1 q2 q3 q4 q5 q6 : Pos} (tb : TabB X.base X.mg c PT) (hco : X.env.code = .ref c) (hlq : lamQ X = lq) (hr : Room 32 X.A) (hG : Gz X.A)
    (T : Txt X.K X.mg) (B : Tab X.K X.w X.mg) (Y : Yrd X.K X.mg) (Xn : Exn X.K X.mg) (FI : FIni X.prog X.K X.mg) (Sl : Shl X.K X.mg) (bm : ∀ fu, BMeth X.K (kC X.K fu) "edit" (He.ma X.K (He.ga X.K "Yard") "edit"))
    (hg : Gl X "_law_tried") (n1 : X.N[iy]? = some ("_law_yard" : Str)) (n2 : X.N[ip]? = some ("_law_items" : Str)) (n3 : X.N[js]? = some ("_law_seen" : Str)) (n4 : X.N[il]? = some ("_law_plan" : Str)) (n5 : X.N[jt]? = some ("_law_last" : Str))
    (v2 : Vis X.env.scope "_law_items") (S : NScope nmL ["_law_held"] frL sc) (hgs : sc.names.lookup ("_law_step" : Str) = some .globalImplicit) (hcl : ∀ y ∈ frL, X.env.scope.names.lookup y = some .cell) (hfn : ∀ y ∈ frL, X.fn y = true)
    (hdf : defaultsOf pr X.env = ([], [])) (hbd : ∀ (cl : List (Str × Addr)) (pm cv ctv u : Value) (be : Expr), bindArgs (PySem.W.kla_fn "<lambda>" (lamQ X) pr be sc cl pm cv ctv) ⟨[u], []⟩ = pure [(("_law_held" : Str), u)]) :
    PE X (.Call (.Name "_law_tried" p0) [.Name "_law_yard" p1, .Name "_law_items" p2, .Lambda pr (.Call (.Name "_law_step" q0) [.Name "_law_held" q1, .Name "_law_yard" q2, .Name "_law_seen" q3, .Name "_law_plan" q4, .Name "_law_last" q5] [] q6) sc lp] [] pos)
      (tTr X.K PT lq iy ip js il jt) := by
  subst hlq
  refine ⟨fun pins s0 σ H Q I0 h => wpAny_Call_Name_kw (ld_glob I0 hg T.g_law_tried ?_ (by decide))⟩
  obtain ⟨tH, y, p, sn, pl, pa, pb, fu, f, n, g0, its, xs, xs0, xs1, last, s1, s2, s3, s4, s5, hy, hp, hx, gd, hi, h2, h3, hpl, hpa, hpb, i0, i1, hsn, d1, d2, d3, l1, kK, kO⟩ := h
  have vis : ∀ y ∈ frL, Vis X.env.scope y := fun y hy => .inr (.inl (hcl y hy))
  have hfr : ∀ y ∈ sc.names, y.2 = .free → ∃ c, X.env.cells.lookup y.1 = some c := fun y hy e => I0.ok.has _ (.inl (hcl _ (S.free y hy e)))
  refine PySem.W.callWith_K (h₀ := X.base) I0.ok.mod.kin T.f_law_tried.kp ?_ (by rfl) (by rfl)
  show wpAny _ _ (spliced ((false, eval (.Name "_law_yard" p1) X.env) :: (false, eval (.Name "_law_items" p2) X.env) :: (false, eval (.Lambda pr (.Call (.Name "_law_step" q0) [.Name "_law_held" q1, .Name "_law_yard" q2, .Name "_law_seen" q3, .Name "_law_plan" q4, .Name "_law_last" q5] [] q6) sc lp) X.env) :: [])) _ _ s0
  refine Calls.spliced_cons (thn ((pe_var (i := iy) (x := "_law_yard") (pos := p1) n1 (vis _ (by decide)) (by decide) (by decide)).run pins s0 σ H (fun v H1 => v = .ref y ∧ H1 = H) I0 ⟨.ref y, s1, rfl, rfl⟩) fun u1 sa ⟨v, H1, Ia, r1, ev, eH⟩ => ?_)
  subst ev
  rw [eH] at Ia
  obtain rfl : u1 = Value.ref y := r1
  refine Calls.spliced_cons (thn ((pe_var (i := ip) (x := "_law_items") (pos := p2) n2 v2 (by decide) (by decide)).run pins sa σ H (fun v H1 => v = .ref p ∧ H1 = H) Ia ⟨.ref p, s2, rfl, rfl⟩) fun u2 sb ⟨v, H1', Ib, r2, ev, eH'⟩ => ?_)
  subst ev
  rw [eH'] at Ib
  obtain rfl : u2 = Value.ref p := r2
  refine Calls.spliced_cons (lamMk Ib tb hco tH hdf hfr fun lf e pm ctv H1 s I eN tH1 hlf lfn big hco1 => ?_)
  refine Calls.spliced_nil ⟨I.kIn, ?_⟩
  -- what it holds
  have mem : ∀ q ∈ lamCl X sc, q.2 ∈ lf :: (lamCl X sc).map (·.2) := fun q hq => List.mem_cons_of_mem _ (List.mem_map.mpr ⟨q, hq, rfl⟩)
  have cellOf : ∀ b ∈ lf :: (lamCl X sc).map (·.2), b = lf ∨ ∃ x, x ∈ frL ∧ X.env.cells.lookup x = some b := fun b hb => by
    rcases List.mem_cons.mp hb with z | hb
    · exact .inl z
    · obtain ⟨⟨x, c1⟩, hq, rfl⟩ := List.mem_map.mp hb
      refine .inr ⟨x, ?_, clo_in hfr hq⟩
      rcases cloFrom_mem hq with z | ⟨z, _⟩
      · cases z
      · exact S.free _ z rfl
  generalize hm0 : holdM s (lf :: (lamCl X sc).map (·.2)) = m at *
  have h1 : ∀ b o, m b = some o → b ∈ lf :: (lamCl X sc).map (·.2) := fun b o z => (holdM_in (by rw [hm0]; exact z)).1
  have hm : ∀ b o, m b = some o → s.heap.get? b = some o ∧ H1 b = none := fun b o z => by
    obtain ⟨z1, z2⟩ := holdM_in (show holdM s (lf :: (lamCl X sc).map (·.2)) b = some o by rw [hm0]; exact z)
    refine ⟨z2, ?_⟩
    rcases cellOf b z1 with q | ⟨x, _, q⟩
    · rw [q]; exact lfn
    · exact I.freeC x b q
  have hmn : ∀ b o, m b = some o → H1 b = none := fun b o z => (hm b o z).2
  have h2m : ∀ b ∈ lf :: (lamCl X sc).map (·.2), ∃ o, m b = some o := fun b hb => by
    rw [← hm0]
    rcases cellOf b hb with q | ⟨x, _, q⟩
    · exact ⟨_, holdM_of hb (by rw [q]; exact hlf)⟩
    · obtain ⟨v, o, z1, z2⟩ := I.cell x b q
      exact ⟨o, holdM_of hb z1⟩
  have mlf : m lf = some (PySem.W.kla_obj "<lambda>" (lamQ X) pr (.Call (.Name "_law_step" q0) [.Name "_law_held" q1, .Name "_law_yard" q2, .Name "_law_seen" q3, .Name "_law_plan" q4, .Name "_law_last" q5] [] q6) sc (lamCl X sc) pm e ctv) := by
    rw [← hm0]
    exact holdM_of List.mem_cons_self hlf
  -- it is none of the base, no frame
  have e0 := I.env0
  have mb : ∀ b o, X.base.get? b = some o → m b = none := fun b o z => by
    cases q : m b with
    | none => rfl
    | some o1 =>
      have lt := Nat.lt_of_lt_of_le (Heap.lt_size z) I0.ok.bsz
      rcases cellOf b (h1 b o1 q) with q | ⟨x, hx, q⟩
      · have := Nat.lt_of_lt_of_le lt (Nat.le_trans Ib.sz big)
        rw [q] at this
        exact absurd this (Nat.lt_irrefl _)
      · exact absurd (Nat.lt_of_lt_of_le lt (I0.ok.cab x b (hfn x hx) q)) (Nat.lt_irrefl _)
  have mf : ∀ b ∈ frs X.stack, m b = none := fun b hb => by
    cases q : m b with
    | none => rfl
    | some o1 =>
      rcases cellOf b (h1 b o1 q) with q | ⟨x, hx, q⟩
      · rcases List.mem_cons.mp (Ib.stkSub _ hb) with z | z
        · have := Ib.lt
          rw [← z, q] at this
          exact absurd (Nat.lt_of_lt_of_le this big) (Nat.lt_irrefl _)
        · exact absurd z (Ib.nofs (by rw [q]; exact big))
      · rcases List.mem_cons.mp (Ib.stkSub _ hb) with z | z
        · exact absurd z (I.cne x b q)
        · obtain ⟨_, o, ho, _⟩ := I0.ok.funs.mem z
          exact absurd (Nat.lt_of_lt_of_le (Heap.lt_size ho) (I0.ok.cab x b (hfn x hx) q)) (Nat.lt_irrefl _)
  have e1 : Env0 X.prog X.w X.K X.mg X.base X.A X.stack s (addX H1 m) := ⟨e0.frames, e0.mod, fun b o z => ⟨(e0.bs b o z).1, add_is (e0.bs b o z).2 (mb b o z)⟩, e0.bsz, e0.funs, fun b hb => add_is (e0.frf b hb) (mf b hb), hok_add e0.hok hm, e0.bare⟩
  -- what is known there
  have kk : KpT [] H (addX H1 m) := (KpT.ofN eN).trans (kpAdd hmn).t
  have k1 : ∀ {H'}, Kp [y, sn] (addX H1 m) H' → KpT [y, sn] H (delX H' m) := fun k => (KpT.ofN eN).trans (kpOut hmn k).t
  obtain ⟨dx, qa, la, b1, b2, b3⟩ := id hy
  have y1 : H1 y = some (.ins (kC X.K fu) dx _) := eN _ _ b1 (fun ps z => nomatch z)
  have sn1 : H1 sn = some (.lst []) := eN _ _ hsn (fun ps z => nomatch z)
  have mno : ∀ {b : Addr} {o : HO}, H1 b = some o → m b = none := fun {b o} z => by
    cases q : m b with
    | none => rfl
    | some o1 => rw [hmn b o1 q] at z; cases z
  have mys : ∀ b ∈ [y, sn], m b = none := fun b hb => by
    rcases List.mem_cons.mp hb with z | hb
    · rw [z]; exact mno y1
    · rw [List.mem_singleton.mp hb]; exact mno sn1
  have t1 : ∀ {H'}, Kp [y, sn] (addX H1 m) H' → TabS (delX H' m) PT (lamQ X) := fun {H'} k => by
    have tt : Tabs [(PT, lamQ X)] H1 := fun q hq => by rw [List.mem_singleton.mp hq]; exact tH1
    refine Tabs.kp tt (kpOut hmn k) (fun b hb => ?_) _ List.mem_cons_self
    rcases List.mem_cons.mp hb with z | hb
    · rw [z, y1]; exact ⟨(fun φ z => nomatch z), (fun ps z => nomatch z)⟩
    · rw [List.mem_singleton.mp hb, sn1]; exact ⟨(fun φ z => nomatch z), (fun ps z => nomatch z)⟩
  have hld : ∀ {H'}, Kp [y, sn] (addX H1 m) H' → Held m H' := fun k => held_add.kp k mys
  have nlm : ∀ {b : Addr} {o : HO}, H1 b = some o → b ∉ lf :: (lamCl X sc).map (·.2) := fun {b o} z hb => by
    obtain ⟨o1, q⟩ := h2m b hb
    rw [hmn b o1 q] at z
    cases z
  have yd1 : ∀ {H' gs}, Kp [y, sn] (addX H1 m) H' → Yd X.K H' y fu false gs → Yd X.K (delX H' m) y fu false gs := fun k z => z.kp (kpDel (hld k) h1) (nlm y1)
  have dl1 : ∀ {H' : Hp} {r : Addr} {xs : List V}, Kp [y, sn] (addX H1 m) H' → H' r = some (.lst xs) → delX H' m r = some (.lst xs) := fun k z => (del_of (hld k) z (fun φ z => nomatch z)).2
  have C : CapM (lamCl X sc) frL [some (.ref y), some (.ref sn), some (.ref pl), some (.int last)] m := by
    rw [← hm0]
    refine capOf I hfr mem rfl fun i x e => ?_
    have hin := List.mem_of_getElem? e
    refine ⟨S.frk x hin, hcl x hin, ?_⟩
    match i, e with
    | 0, e => cases e; exact ⟨iy, n1, fun v z => by cases z; exact s1⟩
    | 1, e => cases e; exact ⟨js, n3, fun v z => by cases z; exact s3⟩
    | 2, e => cases e; exact ⟨il, n4, fun v z => by cases z; exact s4⟩
    | 3, e => cases e; exact ⟨jt, n5, fun v z => by cases z; exact s5⟩
  let F : NF := ⟨"<lambda>", lamQ X, pr, [], sc, lamCl X sc, e⟩
  let fd : FuncData := PySem.W.kla_fn "<lambda>" (lamQ X) pr (.Call (.Name "_law_step" q0) [.Name "_law_held" q1, .Name "_law_yard" q2, .Name "_law_seen" q3, .Name "_law_plan" q4, .Name "_law_last" q5] [] q6) sc (lamCl X sc) pm (.ref e) ctv
  have Fs : GR1 X.prog X.w X.K X.mg X.base (L2.CX X.prog X.w) 19 lf (spLam X.K m F) := lamG (F := F) S mlf h1 h2m (fun u => hbd _ _ _ _ u _) fun A os s H E hr hG =>
    peCall1 (GOk.at (okG_law_step (K := X.K) T B Y Xn FI fd Sl bm) T.b_law_step hr hG) hgs T.g_law_step T.f_law_step.kp (passes_call (takes_of rfl rfl rfl rfl) (fun _ _ _ _ h => h))
      (pa_cons (pe_var (i := 0) rfl (.inl (S.par _ (by decide))) (by decide) (by decide)) (pa_cons (pe_var (i := 1) rfl (.inr (.inr (S.frk _ (by decide)))) (by decide) (by decide)) (pa_cons (pe_var (i := 2) rfl (.inr (.inr (S.frk _ (by decide)))) (by decide) (by decide)) (pa_cons (pe_var (i := 3) rfl (.inr (.inr (S.frk _ (by decide)))) (by decide) (by decide)) (pa_cons (pe_var (i := 4) rfl (.inr (.inr (S.frk _ (by decide)))) (by decide) (by decide)) pa_nil)))))
  have G := GOk.at (okG_law_tried (K := X.K) (w := X.w) (base := X.base) (sps := spLam X.K m F) T B Y 19 lf fd Fs) T.b_law_tried hr hG
  have hle : addX H1 m lf = some (FnQ lf fd) := addX_some mlf
  have sp := spTry (F := F) (fd := fd) (m := m) (E := E0) (Q := fun v H' => Held m H' ∧ Q v (delX H' m)) (hy.kpT kk (by simp)) (kk.lst hp (by simp)) (hx.kpT kk) gd hi h2 h3 (kk.lst hpl (by simp)) (kk.lst hpa (by simp)) (kk.lst hpb (by simp)) (i0.kpT kk) (i1.kpT kk) (kk.lst hsn (by simp)) d1 d2 d3 held_add hle
    ((addX_none (mno hco1)).trans hco1) C l1
    (fun r H' k l4 yk sk rk => ⟨hld k, kK r _ (k1 k) (t1 k) l4 (yd1 k yk) (dl1 k sk) (dl1 k rk)⟩) (fun r H' k l4 yk sk rk => ⟨hld k, kO r _ (k1 k) (t1 k) l4 (yd1 k yk) (dl1 k sk) (dl1 k rk)⟩)
  refine wpAny_call (codeAny_mono (G s (addX H1 m) [.ref y, .ref p, .ref lf] [.ref y, .ref p, .ref lf] _ _ I.kIn e1 (.cons rfl (.cons rfl (.cons rfl .nil))) sp) fun z s' hq => ?_)
  match z, hq with
  | .error e, hq => exact hq.elim
  | .ok (.ret v), hq => exact I.after (ce_add hm hq)
  | .ok .next, hq => exact hq.elim
  | .ok .brk, hq => exact hq.elim
  | .ok .cont, hq => exact hq.elim
end
end TB
/-! what the law's own body needs
The steps follow those of the library: the slices of HandS.Style (there of a text or list). -/
namespace TB
open PySem PySem.Spec PyProof.Rows L2 NdefX LamX
/-! ### t[::-1], t of two -/
section
variable {pr0 : Program} {wd : World} {A : Around} {E : Value → Shared → Prop} {s : Shared}
theorem pairBack {t sl : Addr} {u v z : Value} {Q : Value → Shared → Prop} (ht : IsTup s.heap t #[u, v]) (hz : s.heap.IsSliceOf sl .none .none z) (pz : IsPart z (some (-1)))
    (q : Q (.ref s.heap.objs.size) { s with heap := s.heap.push { cls := .type "tuple", data := .seq #[v, u] } }) : wpAny (model pr0 wd) A (getItem (.ref t) (.ref sl)) Q E s := by
  obtain ⟨o, ho, hcl, hda⟩ := id hz
  have isS : s.TypeIs (.ref sl) "slice" := ⟨o, ho, hcl⟩
  unfold getItem
  first | with_reducible refine wpAny_holding ?_ | skip
  try refine wpAny_bind (wpAny_pure ?_)
  refine wpAny_bind (wpAny_sequenceKey (ht.typeIs) (by decide) ?_)
  refine wpAny_bind (wpAny_callSpecial?_slot (name := Str.ofString "__getitem__") ht.typeIs PyProof.Rows.slot_tuple_getitem (wpAny_call_entry PyProof.Rows.slot_tuple_getitem ht.typeIs entry_tuple_getitem ?_ (args_tuple_getitem _ _)))
  refine wpAny_bind (m := Builtin.Tuple.tupleItemsOf (.ref t)) (tupleItemsOf_ ht (wpAny_bind (wpAny_typeOf isS ?_)))
  rw [if_pos (by decide)]
  refine wpAny_bind (?_ : wpAny _ _ (Builtin.Slice.sliceApplied (.ref sl) (pure (2 : Int))) _ _ s)
  delta Builtin.Slice.sliceApplied Builtin.Slice.sliceFields
  refine wpAny_bind (wpAny_bind (wpAny_field ho hda (x := .none) rfl (wpAny_bind (wpAny_field ho hda (x := .none) rfl (wpAny_bind (wpAny_field ho hda (x := z) rfl (wpAny_pure ?_)))))))
  refine wpAny_bind (HT.slicePart_ pz ?_)
  show wpAny _ _ (if ((-1 : Int) == 0) = true then _ else _) _ _ s
  rw [if_neg (by decide)]
  refine wpAny_bind (HT.slicePart_ .none (wpAny_bind (HT.slicePart_ .none (wpAny_bind (wpAny_pure ?_)))))
  show wpAny _ _ (pure ((1 : Int), (-1 : Int), (2 : Nat))) _ _ s
  refine wpAny_pure ?_
  show wpAny _ _ (if ((1 : Int) == 0 && (-1 : Int) == 1 && (2 : Nat) == 2) = true then _ else _) _ _ s
  rw [if_neg (by decide)]
  have ep : ((List.range 2).filterMap fun (m : Nat) => (#[u, v] : Array Value)[((1 : Int) + (m : Int) * (-1)).toNat]?).toArray = #[v, u] := by rfl
  rw [ep]
  first
    | exact wpAny_bind (m := Builtin.Tuple.tupleExact _) (wpAny_newObj_type (wpAny_pure ⟨_, rfl, wpAny_pure q⟩) (by show 2 ≤ sizeLine; decide))
    | exact wpAny_bind (m := Builtin.Tuple.tupleExact _) (wpAny_newObj_type (wpAny_bind (wpAny_pure (wpAny_pure ⟨_, rfl, wpAny_pure q⟩))) (by show 2 ≤ sizeLine; decide))
    | exact wpAny_bind (wpAny_bind (m := Builtin.Tuple.tupleExact _) (wpAny_newObj_type (wpAny_pure (wpAny_pure ⟨_, rfl, wpAny_pure q⟩)) (by show 2 ≤ sizeLine; decide)))
    | exact wpAny_bind (wpAny_bind (m := Builtin.Tuple.tupleExact _) (wpAny_newObj_type (wpAny_pure ⟨_, rfl, wpAny_pure q⟩) (by show 2 ≤ sizeLine; decide)))
end
def tBack (K : PySem.W.Frag) (te : TE) : TE := fun τ H Q => te τ H fun x H1 => ∃ a u v, x = .ref a ∧ SqT K H1 a [u, v] ∧ ∀ p, H1 p = none → Q (.ref p) (upd H1 p (.tup [v, u]))
theorem peBack {X : Cx} {K : PySem.W.Frag} {e : Expr} {te : TE} {k : Nat} {p1 p2 p3 pos : Pos} (hK : X.K = K) (he : PE X e te) : PE X (.Subscript e (.Slice none none (some (.UnaryOp .USub (.Constant (.int 1) k p1) p2)) p3) pos) (tBack K te) := by
  subst hK
  refine ⟨fun pz s τ H Q Nv h => Subscript_ (thn (he.run pz s τ H _ Nv h) fun v sA ⟨x, H1, Nv1, r1, a, b, c, ex, hx, q⟩ => ?_)⟩
  subst ex
  cases r1
  have part : PO X (some (.UnaryOp .USub (.Constant (.int 1) k p1) p2)) (tPart (tUn (rU fun i => .int (-i)) (tC (.int 1)))) := po_some (pe_un un_neg pe_int)
  refine wpAny_Slice (thn (po_none.run pz sA τ H1 (fun o H2 => o = none ∧ H2 = H1) Nv1 ⟨rfl, rfl⟩) fun vl sB ⟨l, H2, Nv2, pl, el, e2⟩ => ?_)
  subst el e2
  refine thn (po_none.run pz sB τ H2 (fun o H3 => o = none ∧ H3 = H2) Nv2 ⟨rfl, rfl⟩) fun vu sC ⟨u, H3, Nv3, pu, eu, e3⟩ => ?_
  subst eu e3
  refine thn (part.run pz sC τ H3 (fun o H4 => o = some (-1) ∧ H4 = H3) Nv3 ⟨1, rfl, -1, rfl, rfl, rfl⟩) fun vs sD ⟨o, H4, Nv4, pS, eO, e4⟩ => ?_
  subst eO e4
  cases pl
  cases pu
  have J : Inv X pz τ H4 { sD with heap := sD.heap.push { cls := .type "slice", data := .fields #[.none, .none, vs] } } := Nv4.kept (t' := sD.toks) fun b ob q => Heap.get?_push_of_some _ q
  obtain ⟨its, r, ht, hz⟩ := J.tuple hx
  cases r with
  | cons rb r =>
  cases r with
  | cons rc r =>
  cases r
  show wpAny (model X.prog X.w) X.A (subscriptTail e (.Slice none none (some (.UnaryOp .USub (.Constant (.int 1) k p1) p2)) p3) (.ref a) (.ref sD.heap.objs.size)) (EP X pz τ Q) X.xe { sD with heap := sD.heap.push { cls := .type "slice", data := .fields #[.none, .none, vs] } }
  refine tail_any (ops := [.ref a, .ref sD.heap.objs.size]) ht.typeIs PyProof.Rows.slot_tuple_getitem.lookup ?_ (by with_unfolding_all rfl)
  refine pairBack ht (Heap.IsSliceOf.new _ .none .none vs) pS ?_
  exact ⟨.ref _, _, J.laid (t' := sD.toks) (o := .tup [c, b]) (fun b ob q => Heap.get?_push_of_some _ q) (Nat.le_refl _) ⟨by show 2 ≤ sizeLine; decide, _, .cons rc (.cons rb .nil), IsTup.new _ _⟩, rfl, q _ (J.hok.fresh (Nat.le_refl _))⟩
/-! ### one of several readings -/
section
variable {X : Cx} {α : Type}
theorem pssEx {b : List Stmt} {t : α → TS} (h : ∀ a, PSs X b (t a)) : PSs X b (fun D τ H => ∃ a, t a D τ H) := ⟨fun pz s τ H D Nv ⟨a, q⟩ => (h a).run pz s τ H D Nv q⟩
end
end TB
/-! readings of the law's own statements -/
namespace TB
open PySem PySem.Spec PyProof.Rows L2 NdefX LamX
section
variable {K : PySem.W.Frag} {mg : Str → Option Value} {σ : L2.St} {H H1 : Hp} {i j : Nat} {Q : VK} {D : Ends} {tz : TS} {d p q : Addr} {a b x : List Int}
theorem tconsI {te : TE} {tr : TA} {R : List V → Hp → Prop} (h : te σ H fun x H1 => tr σ H1 fun xs H2 => R (x :: xs) H2) : tCons te tr σ H R := h
theorem tlstI {t : TA} (h : t σ H fun xs H1 => xs.length ≤ sizeLine ∧ ∀ p, H1 p = none → Q (.ref p) (upd H1 p (.lst xs))) : tLst t σ H Q := h
theorem gT2 {v : V} {e f : PyData} {R : L2.St → Hp → Prop} (h : Im K H v (.tuple [e, f])) (k : ∀ u z, Im K H u e → Im K H z f → R ((σ.set i (some u)).set j (some z)) H) : gTup K 2 (gCons (gName i) (gCons (gName j) gNil)) v σ H R := by
  obtain ⟨c, xs, rfl, h1, h2⟩ := h.tupI
  obtain ⟨u, z, rfl, iu, iz⟩ := h2.inv2
  exact ⟨c, _, rfl, h1, rfl, _, _, rfl, _, _, rfl, rfl, k u z iu iz⟩
/-- full = draw(2) == 0 and is_filled(pair, box) -/
theorem qfull {i1 i2 i3 : Nat} {v2 v3 : V} {E E' : XK} (h1 : σ[i1]? = some (some (.ref d))) (h2 : σ[i2]? = some (some v2)) (h3 : σ[i3]? = some (some v3)) (hD : Dk H d p q) (e2 : Im K H v2 (pairD (a, b))) (e3 : Im K H v3 (tI x)) (hB : Bx a b x)
    (k : ∀ (ff : Bool) H', (ff = true → fillB a b x = true) → Kp [d, p] H H' → Dk H' d p q → tz D (σ.set j (some (.bl ff))) H') :
    tSeq (tAsg (tAndV (tOp rEq (tCall (sp_law_draw K) [] E (tCons (tVar i1) (tCons (tC (.int 2)) tNil))) (tC (.int 0))) (tCall (sp_law_is_filled K) [] E' (tCons (tVar i2) (tCons (tVar i3) tNil)))) (gName j)) tz D σ H := by
  show tCall (sp_law_draw K) [] E (tCons (tVar i1) (tCons (tC (.int 2)) tNil)) σ H _
  refine drw (K := K) h1 hD (m := 2) (by decide) (by decide) dint fun r H1 r0 r1 k1 hD1 => ?_
  refine ⟨rfl, _, rfl, ?_⟩
  by_cases e : V.int r = V.int 0
  · rw [decide_eq_true e]
    exact ifT ⟨_, h2, _, h3, v2, v3, a, b, x, rfl, e2.kp k1, e3.kp k1, hB, fun H2 k2 => k _ H2 id (k1.trans k2.up) (hD1.kp k2)⟩
  · rw [decide_eq_false e]
    exact ifF (k false H1 (fun e => nomatch e) k1 hD1)
/-- yard, pages = FullYard(pair, box) if full else Yard(pair, box), [(pair, box)] -/
theorem qmk {i3 i4 i5 : Nat} {v3 v4 : V} {ff : Bool} {E1 E2 : XK} (h3 : σ[i3]? = some (some v3)) (h4 : σ[i4]? = some (some v4)) (h5 : σ[i5]? = some (some (.bl ff))) (e3 : Im K H v3 (pairD (a, b))) (e4 : Im K H v4 (tI x)) (hB : Bx a b x) (hf : ff = true → fillB a b x = true)
    (k : ∀ y pg xs H', Kp [] H H' → H y = none → H pg = none → y ≠ pg → Yd K H' y ff false [((a, b), x)] → H' pg = some (.lst xs) → ImAll K H' xs [pageD ((a, b), x)] → tz D ((σ.set i (some (.ref y))).set j (some (.ref pg))) H') :
    tSeq (tAsg (tTup (tCons (tIf (tB (tVar i5)) (StX.tMakeR (kC K true) (sp_F_init K) E1 (tCons (tVar i3) (tCons (tVar i4) tNil))) (tMake (kC K false) (sp_Y_init K) [] E2 (tCons (tVar i3) (tCons (tVar i4) tNil)))) (tCons (tLst (tCons (tTup (tCons (tVar i3) (tCons (tVar i4) tNil))) tNil)) tNil)))
      (gTup K 2 (gCons (gName i) (gCons (gName j) gNil)))) tz D σ H := by
  show tIf (tB (tVar i5)) (StX.tMakeR (kC K true) (sp_F_init K) E1 (tCons (tVar i3) (tCons (tVar i4) tNil))) (tMake (kC K false) (sp_Y_init K) [] E2 (tCons (tVar i3) (tCons (tVar i4) tNil))) σ H
    (fun v H1 => tLst (tCons (tTup (tCons (tVar i3) (tCons (tVar i4) tNil))) tNil) σ H1 fun w H2 => [v, w].length ≤ sizeLine ∧ ∀ t, H2 t = none → gTup K 2 (gCons (gName i) (gCons (gName j) gNil)) (.ref t) σ (upd H2 t (.tup [v, w])) (tz D))
  have rest : RetY K H (fun v H1 => tLst (tCons (tTup (tCons (tVar i3) (tCons (tVar i4) tNil))) tNil) σ H1 fun w H2 => [v, w].length ≤ sizeLine ∧ ∀ t, H2 t = none → gTup K 2 (gCons (gName i) (gCons (gName j) gNil)) (.ref t) σ (upd H2 t (.tup [v, w])) (tz D)) ff [((a, b), x)] := by
    intro y H1 k1 ny hy
    refine (dlst (K := K) (ds := [pageD ((a, b), x)]) (dacons (dtup (dacons (dv h3 (e3.kp k1)) (dacons (dv h4 (e4.kp k1)) danil))) danil)) H1 .refl _ fun pg H2 xs k2 npg hpg hxs => ⟨Evl.sz_of (by simp), fun t nt => ?_⟩
    have kt : Kp [] H2 (upd H2 t (.tup [.ref y, .ref pg])) := .new nt
    have hy0 : H1 y ≠ none := fun e => by
      obtain ⟨dx, pa, la, h1, _⟩ := hy
      rw [h1] at e
      cases e
    exact ⟨t, _, rfl, .of upd_same, rfl, _, _, rfl, _, _, rfl, rfl, k y pg xs _ (k1.trans (k2.trans kt)) ny (k1.free npg) (fun e => hy0 (e ▸ npg)) (hy.up (k2.trans kt)) (kt.get hpg) (hxs.kp kt)⟩
  refine ⟨_, h5, ff, rfl, ?_⟩
  cases ff with
  | false => exact ifF (dNew (K := K) (fu := false) (dacons (dv h3 e3) (dacons (dv h4 e4) danil)) (fun y dx v1 v2 H1 Q1 h1 i1 i2 q => ⟨y, dx, v1, v2, false, _, _, _, rfl, h1, i1, i2, hB, q⟩) rest)
  | true => exact ifT (dNewR (K := K) (fu := true) (dacons (dv h3 e3) (dacons (dv h4 e4) danil)) (fun y dx v1 v2 H1 Q1 h1 i1 i2 q => ⟨y, dx, v1, v2, _, _, _, rfl, h1, i1, i2, hB, hf rfl, q⟩) rest)
/-- an item: swap or turn -/
theorem spItem {i1 ib : Nat} {vx : V} {E E' : XK} (h1 : σ[i1]? = some (some (.ref d))) (hb : σ[ib]? = some (some vx)) (ix : Im K H vx (tI x)) (hD : Dk H d p q) (l0 : 0 < x.length) (l4 : x.length ≤ 4)
    (k : ∀ v e H2, (∃ o, e = itD o ∧ itOk x.length o) → Im K H2 v e → Kp [d, p] H H2 → Dk H2 d p q → Q v H2) :
    tCall (sp_law_one K) [] E (tCons (tVar i1) (tCons (tLst (tCons (tTup (tCons (tC (.str "swap")) tNil)) (tCons (tTup (tCons (tC (.str "turn")) (tCons (tCB (fun xs H Q => ∃ p ys, xs = [.ref p] ∧ ((SqL K H p ys ∧ ∀ l, H l = none → Q (.ref l) (upd H l (.tup ys))) ∨ (SqT K H p ys ∧ Q (.ref p) H)))
      (tCons (tCall (sp_law_mixed K) [] E' (tCons (tVar i1) (tCons (tLstRg (tRg1 (tCB (fun xs H Q => ∃ p ys, xs = [.ref p] ∧ (SqL K H p ys ∨ SqT K H p ys) ∧ Q (.int ys.length) H) (tCons (tVar ib) tNil)))) tNil))) tNil)) tNil))) tNil))) tNil)) σ H Q := by
  refine ⟨_, h1, ?_⟩
  refine tconsI (tlstI (tconsI ?_))
  refine (dtup (K := K) (ds := [.str "swap"]) (dacons dstr danil)) H .refl _ fun v1 Ha ka i1' => ?_
  refine tconsI ?_
  show tTup _ σ Ha _
  refine ⟨_, h1, ?_⟩
  refine tconsI ?_
  refine (dlrg (K := K) (n := x.length) (DE.is (dlen (ds := x.map .int) (dv hb (ix.kp ka))) (by simp)) (by omega)) Ha .refl _ fun r Hb xs kb nr hr hxs => ?_
  have hxs2 : ImAll K Hb xs (((List.range x.length).map fun i => ((i : Nat) : Int)).map PyData.int) := by
    rw [List.map_map]
    exact hxs
  obtain rfl := ImAll.ints_inv _ hxs2
  have hDa := hD.kp ka
  have nr' := hDa.ne nr
  have hDb := hDa.kp kb
  refine ⟨d, p, q, r, _, rfl, hDb, hr, nr'.1, nr'.2.1, by simpa using l0, by simp; omega, fun z l Hc pm kc hDc nz hz => ?_⟩
  have nz' := hDb.ne nz
  refine ⟨z, _, rfl, .inl ⟨.of hz, fun t nt => ?_⟩⟩
  have kt : Kp [] Hc (upd Hc t (.tup (l.map V.int))) := .new nt
  refine ⟨Evl.sz_of (by simp), fun t2 nt2 => ?_⟩
  have kt2 : Kp [] (upd Hc t (.tup (l.map V.int))) (upd (upd Hc t (.tup (l.map V.int))) t2 (.tup [.str "turn", .ref t])) := .new nt2
  refine ⟨Evl.sz_of (by simp), fun rl nrl => ?_⟩
  have kl : Kp [] (upd (upd Hc t (.tup (l.map V.int))) t2 (.tup [.str "turn", .ref t])) (upd (upd (upd Hc t (.tup (l.map V.int))) t2 (.tup [.str "turn", .ref t])) rl (.lst [v1, .ref t2])) := .new nrl
  have it : Im K (upd Hc t (.tup (l.map V.int))) (.ref t) (tI l) := .tup (.of upd_same) (ImAll.ints _)
  have it2 : Im K (upd (upd Hc t (.tup (l.map V.int))) t2 (.tup [.str "turn", .ref t])) (.ref t2) (itD (some l)) := .tup (.of upd_same) (.cons (.str _) (.cons (it.kp kt2) .nil))
  have hDl := (hDc.kp kt).kp kt2
  have nrl' := hDl.ne nrl
  have kall := kt.trans (kt2.trans kl)
  refine ⟨d, p, q, rl, _, [itD none, itD (some l)], rfl, hDl.kp kl, upd_same, nrl'.1, nrl'.2.1, .cons ((i1'.kp (kb.up.trans kc)).kp kall) (.cons (it2.kp kl) .nil), by simp, by simp, fun v e H2 he k2 hD2 i2 => ?_⟩
  have kk : Kp [d, p] H H2 := (ka.trans kb).up.trans (kc.trans (kall.up.trans k2))
  simp at he
  rcases he with rfl | rfl
  · exact k v _ H2 ⟨none, rfl, trivial⟩ i2 kk hD2
  · exact k v _ H2 ⟨some l, rfl, pm⟩ i2 kk hD2
/-- states, last, seen = [], 1 + draw(5), [] -/
theorem qthree {i1 l : Nat} {E : XK} (h1 : σ[i1]? = some (some (.ref d))) (hD : Dk H d p q)
    (k : ∀ st sn (last : Int) H', 1 ≤ last → Kp [d, p] H H' → Dk H' d p q → H st = none → H sn = none → st ≠ sn → H' st = some (.lst []) → H' sn = some (.lst []) → tz D (((σ.set i (some (.ref st))).set j (some (.int last))).set l (some (.ref sn))) H') :
    tSeq (tAsg (tTup (tCons (tLst tNil) (tCons (tOp (rI0 fun i j => .int (i + j)) (tC (.int 1)) (tCall (sp_law_draw K) [] E (tCons (tVar i1) (tCons (tC (.int 5)) tNil)))) (tCons (tLst tNil) tNil)))) (gTup K 3 (gCons (gName i) (gCons (gName j) (gCons (gName l) gNil))))) tz D σ H := by
  refine ⟨Evl.sz_of (by simp), fun st nst => ?_⟩
  have k1 : Kp [] H (upd H st (.lst [])) := .new nst
  have ns := hD.ne nst
  show tCall (sp_law_draw K) [] E (tCons (tVar i1) (tCons (tC (.int 5)) tNil)) σ (upd H st (.lst [])) _
  refine drw (K := K) h1 (hD.kp k1) (m := 5) (by decide) (by decide) dint fun r H2 r0 r1 k2 hD2 => ?_
  refine ⟨1, r, rfl, rfl, Evl.sz_of (by simp), fun sn nsn => ⟨Evl.sz_of (by simp), fun t nt => ?_⟩⟩
  have h2 : H2 st = some (.lst []) := k2.keep st _ upd_same (by simp [ns.1, ns.2.1])
  have k3 : Kp [] H2 (upd H2 sn (.lst [])) := .new nsn
  have k4 : Kp [] (upd H2 sn (.lst [])) (upd (upd H2 sn (.lst [])) t (.tup [.ref st, .int (1 + r), .ref sn])) := .new nt
  have nsn0 : H sn = none := by
    cases e : H sn with
    | none => rfl
    | some o =>
      exfalso
      by_cases hm : sn ∈ [d, p]
      · obtain ⟨bs, cs, n, e1, e2, e3, _⟩ := hD2
        rcases List.mem_cons.mp hm with z | z
        · rw [z, e1] at nsn; cases nsn
        · rw [List.mem_singleton.mp z, e2] at nsn; cases nsn
      · rw [(k1.up.trans k2).keep sn o e hm] at nsn; cases nsn
  have ne : st ≠ sn := fun e => by rw [← e, h2] at nsn; cases nsn
  exact ⟨t, _, rfl, .of upd_same, rfl, _, _, rfl, _, _, rfl, _, _, rfl, rfl, k st sn (1 + r) _ (by omega) (k1.up.trans (k2.trans (k3.trans k4).up)) ((hD2.kp k3).kp k4) nst nsn0 ne (k4.get (k3.get h2)) (k4.get upd_same)⟩
end
end TB
/-! readings of the law's own statements: the states, the plan, what is asked last -/
namespace TB
open PySem PySem.Spec PyProof.Rows L2 NdefX LamX
theorem pgs_at : ∀ (its : List (Option (List Int))) (gs : List Pg) (i : Nat) (o : Option (List Int)), its[i]? = some o → (pgs gs its)[i]? = some (stp o (lastP (appN gs (its.take i))))
  | o :: r, gs, 0, _, h => by
    cases h
    rfl
  | o :: r, gs, i + 1, o1, h => by
    have h' : r[i]? = some o1 := h
    exact pgs_at r (app1 gs o) i o1 h'
  | [], gs, i, o, h => by simp at h
theorem lastAt {gs : List Pg} (h : gs ≠ []) : atI (gs.map pageD) (-1) = some (pageD (lastP gs)) := by
  have e : gs.map pageD = (gs.dropLast).map pageD ++ [pageD (lastP gs)] := by
    rw [last_eq h]
    conv => lhs; rw [← List.dropLast_concat_getLast h]
    simp
  rw [e]
  exact atI_last _ _
section
variable {K : PySem.W.Frag} {mg : Str → Option Value} {σ : L2.St} {H H1 : Hp} {i j : Nat} {Q : VK} {D : Ends} {tz : TS} {y st sn pg it : Addr} {fu b f : Bool} {n : Nat} {g0 gs : List Pg} {its : List (Option (List Int))} {E : XK}
/-- for item in items: states.append(page_after((pages + states)[-1], item)) -/
theorem qstates {ii js jp jj : Nat} {xi xs0 : List V} (hi : σ[ii]? = some (some (.ref it))) (hs : σ[js]? = some (some (.ref st))) (hp : σ[jp]? = some (some (.ref pg))) (e1 : jj ≠ js) (e2 : jj ≠ jp) (ej : jj < σ.length) (hit : H it = some (.lst xi)) (hxi : ImAll K H xi (its.map itD)) (hpg : H pg = some (.lst xs0)) (hx0 : ImAll K H xs0 (g0.map pageD))
    (hst : H st = some (.lst [])) (n1 : it ≠ st) (n2 : pg ≠ st) (gd : Gd fu n f g0) (hok : ∀ o ∈ its, itOk n o) (h3 : its.length ≤ 3) (h2 : g0.length ≤ 2)
    (k : ∀ σ' xs H', (σ' = σ ∨ ∃ z, σ' = σ.set jj (some z)) → Kp [st] H H' → H' st = some (.lst xs) → ImAll K H' xs ((pgs g0 its).map pageD) → tz D σ' H') :
    tSeq (tFor (iList K (tVar ii)) (gName jj) (tDrop (tBM K "list" rAppend (tVar js) (tCons (tCall (sp_law_page_after K) [] E (tCons (tOp (rIxL K) (tOp rCat (tVar jp) (tVar js)) (tUn (rU fun i => .int (-i)) (tC (.int 1)))) (tCons (tVar jj) tNil))) tNil)))) tz D σ H := by
  refine ⟨_, hi, it, rfl, ⟨xi, .of hit⟩, ?_⟩
  have li := hxi.len
  rw [List.length_map] at li
  have nis : it ∉ [st] := fun z => n1 (List.mem_singleton.mp z)
  have nps : pg ∉ [st] := fun z => n2 (List.mem_singleton.mp z)
  refine for_list (xs := xi) (fun i σ' H' => (σ' = σ ∨ ∃ z, σ' = σ.set jj (some z)) ∧ Kp [st] H H' ∧ ∃ xs, H' st = some (.lst xs) ∧ ImAll K H' xs (((pgs g0 its).take i).map pageD))
    ⟨.inl rfl, .refl, [], hst, .nil⟩ (fun i σ' H' _ p => .of (p.2.1.keep _ _ hit nis)) (fun i x σ' H' hx p => ?_) (fun σ' H' p => ?_)
  · obtain ⟨hσ, kk, xs, hxs, ixs⟩ := p
    have hσ2 : σ'.set jj (some x) = σ.set jj (some x) := by
      rcases hσ with e | ⟨z, e⟩
      · rw [e]
      · rw [e, List.set_set]
    show tDrop _ _ (σ'.set jj (some x)) H'
    rw [hσ2]
    have lt : i < its.length := by
      have := (List.getElem?_eq_some_iff.mp hx).1
      omega
    have ho : its[i]? = some its[i] := List.getElem?_eq_getElem lt
    obtain ⟨d, hd, hxd⟩ := hxi.getV hx
    rw [List.getElem?_map, ho] at hd
    cases hd
    have gi := hok _ (List.getElem_mem lt)
    have hs' : (σ.set jj (some x))[js]? = some (some (.ref st)) := by rw [List.getElem?_set_ne e1]; exact hs
    have hp' : (σ.set jj (some x))[jp]? = some (some (.ref pg)) := by rw [List.getElem?_set_ne e2]; exact hp
    have hj' : (σ.set jj (some x))[jj]? = some (some x) := by rw [List.getElem?_set_self ej]
    have lx := ixs.len
    rw [List.length_map, List.length_take, pgs_len] at lx
    have l0 := hx0.len
    rw [List.length_map] at l0
    refine ⟨_, hs', .inl ⟨rfl, xs, .of hxs⟩, ?_⟩
    refine ⟨_, hp', _, hs', pg, st, xs0, xs, rfl, rfl, kk.keep _ _ hpg nps, hxs, Evl.sz_of (by omega), fun t nt => ?_⟩
    have kt : Kp [] H' (upd H' t (.lst (xs0 ++ xs))) := .new nt
    have all : ImAll K (upd H' t (.lst (xs0 ++ xs))) (xs0 ++ xs) ((appN g0 (its.take i)).map pageD) := by
      rw [appN_pgs, pgs_take, List.map_append]
      exact ((hx0.kp kk).kp kt).app (ixs.kp kt)
    have ga : Gd fu n f (appN g0 (its.take i)) := gd.appN (fun o ho => hok o (List.mem_of_mem_take ho)) (by rw [List.length_take]; omega)
    obtain ⟨v, hv, iv⟩ := imAtI all (lastAt ga.ne)
    refine ⟨1, rfl, t, _, -1, v, rfl, rfl, .of upd_same, hv, _, hj', ?_⟩
    have gl := ga.nl
    have gi2 : itOk (lastP (appN g0 (its.take i))).2.length its[i] := by rw [gl]; exact gi
    refine ⟨v, x, (lastP (appN g0 (its.take i))).1.1, (lastP (appN g0 (its.take i))).1.2, (lastP (appN g0 (its.take i))).2, its[i], rfl, iv, (hxd.kp kk).kp kt, ga.bl, gi2, fun u H2 k2 iu => ?_⟩
    have k12 := kt.trans k2
    refine ⟨st, xs, u, rfl, rfl, k12.get hxs, Evl.sz_lt (by omega), ?_⟩
    have kw : Kp [st] H2 (upd H2 st (.lst (xs ++ [u]))) := Kp.wl (k12.get hxs) (by simp)
    refine ⟨.inr ⟨x, rfl⟩, kk.trans (k12.up.trans kw), xs ++ [u], upd_same, ?_⟩
    have e : (pgs g0 its).take (i + 1) = (pgs g0 its).take i ++ [stp its[i] (lastP (appN g0 (its.take i)))] := by
      rw [List.take_succ, pgs_at _ _ _ _ ho]
      rfl
    rw [e, List.map_append]
    exact ((ixs.kp k12).kp kw).app (.cons (iu.kp kw) .nil)
  · obtain ⟨hσ, kk, xs, hxs, ixs⟩ := p
    rw [li, List.take_of_length_le (by rw [pgs_len]; exact Nat.le_refl _)] at ixs
    exact k σ' xs H' hσ kk hxs ixs
/-- ahead, plan = shows(yard), [states, pages, "same"] -/
theorem qplan {iy js jp : Nat} (h1 : σ[iy]? = some (some (.ref y))) (h2 : σ[js]? = some (some (.ref st))) (h3 : σ[jp]? = some (some (.ref pg))) (hy : Yd K H y fu b gs) (hg : Gd fu n f gs)
    (k : ∀ pl H', Kp [] H H' → H pl = none → H' pl = some (.lst [.ref st, .ref pg, .str "same"]) → tz D ((σ.set i (some (.str (PyData.list (shL (lastP gs) gs.length n f)).shown))).set j (some (.ref pl))) H') :
    tSeq (tAsg (tTup (tCons (tCall (sp_law_shows K) [] E (tCons (tVar iy) tNil)) (tCons (tLst (tCons (tVar js) (tCons (tVar jp) (tCons (tC (.str "same")) tNil)))) tNil))) (gTup K 2 (gCons (gName i) (gCons (gName j) gNil)))) tz D σ H := by
  refine ⟨_, h1, y, fu, b, f, n, gs, rfl, hy, hg, fun H1 k1 => ?_⟩
  refine ⟨_, h2, _, h3, Evl.sz_of (by simp), fun pl npl => ⟨Evl.sz_of (by simp), fun t nt => ?_⟩⟩
  have kp : Kp [] H1 (upd H1 pl (.lst [.ref st, .ref pg, .str "same"])) := .new npl
  have kt : Kp [] (upd H1 pl (.lst [.ref st, .ref pg, .str "same"])) (upd (upd H1 pl (.lst [.ref st, .ref pg, .str "same"])) t (.tup [.str (PyData.list (shL (lastP gs) gs.length n f)).shown, .ref pl])) := .new nt
  exact ⟨t, _, rfl, .of upd_same, rfl, _, _, rfl, _, _, rfl, rfl, k pl _ (k1.trans (kp.trans kt)) (k1.free npl) (kt.get upd_same)⟩
theorem difL {b : Bool} {t : TT} {ta tb : TE} {ds : List PyData} (h : DT t σ H b) (h1 : b = true → DL K ta σ H ds) (h2 : b = false → DL K tb σ H ds) : DL K (tIf t ta tb) σ H ds := fun H1 k Q q => h H1 k _ fun H2 k2 => by
  cases b with
  | true => exact ifT (h1 rfl H2 (k.trans k2) _ fun p H3 xs k3 n3 h3 i3 => q p H3 xs (k2.trans k3) (k2.free n3) h3 i3)
  | false => exact ifF (h2 rfl H2 (k.trans k2) _ fun p H3 xs k3 n3 h3 i3 => q p H3 xs (k2.trans k3) (k2.free n3) h3 i3)
theorem dNoIn {l : Addr} {m : Nat} (hv : σ[i]? = some (some (.ref l))) (hl : H l = some (.lst (List.replicate m (.ref y)))) (hy : Yd K H y fu b gs) : DE K (tOp (rNoIn K) (tC .non) (tVar i)) σ H (.bool false) := fun H1 k Q q =>
  ⟨_, hv, l, y, m, fu, b, gs, rfl, rfl, k.get hl, hy.up k, fun H' k' => q _ H' k' (.bl false)⟩
theorem dmin {z w : Int} {ta tb : TE} (ha : DE K ta σ H (.int z)) (hb : DE K tb σ H (.int w)) : DE K (tCB (fun xs H Q => ∃ i j, xs = [.int i, .int j] ∧ Q (.int (if j < i then j else i)) H) (tCons ta (tCons tb tNil))) σ H (.int (if w < z then w else z)) := fun H1 k Q q =>
  ha H1 k _ fun v H2 k2 hv => hb H2 (k.trans k2) _ fun u H3 k3 hu => by
    obtain rfl := hv.intI
    obtain rfl := hu.intI
    exact ⟨z, w, rfl, q _ H3 (k2.trans k3) (.int _)⟩
theorem dLast {ta : TE} {xs : List V} (hv : σ[i]? = some (some (.ref st))) (hs : H st = some (.lst xs)) (hx : ImAll K H xs (gs.map pageD)) (hn : gs ≠ []) : DE K (tOp (rIxL K) (tVar i) (tUn (rU fun i => .int (-i)) (tC (.int 1)))) σ H (pageD (lastP gs)) := dixV hv (.of hs) hx (dneg (K := K) dint) (lastAt hn)
theorem dState0 (hv : σ[i]? = some (some (.ref y))) (h : Yd K H y fu b gs) (hn : gs ≠ []) : DE K (tMeth (kC K fu) "state_at" (sp_state_at K) [.non] E (tVar i) tNil) σ H (pageD (lastP gs)) := fun H1 k Q q => by
  have h0 := h.up k
  obtain ⟨dx, pa, la, h1, h2, h3⟩ := id h0
  exact ⟨_, hv, y, dx, _, rfl, h1, yl_state _ _ _, y, .non, fu, b, gs, rfl, h0, hn, .inl ⟨rfl, fun v H2 k2 iv => q v H2 k2 iv⟩⟩
end
section
variable {P : Program} {w : World} {K : PySem.W.Frag} {mg : Str → Option Value} {base : Heap} {CX : CXT} {k : Nat} {f : Addr} {fd : FuncData} {ps : List Str} {sp : Sp}
/-- by the body; told is the code object -/
theorem gokC {x qual : Str} {pr : Arguments} {bd : List Stmt} {sc : Scope} {dvs : List V} {kws : List (Str × V)} {N : List Str} (F : FunD K x qual pr bd sc dvs kws f fd) (S : FnScope N ps sc) (nr : ∀ xs H Q E, sp xs H Q E → xs.length = ps.length)
    (hb : ∀ (cdv : Value), fd.code = cdv → ∀ (A : Around) (os : List Env) (s : Shared) (H : Hp) (xs : List V) (Q : VK) (E : XK), Room k (A.deeper (envOfC qual sc s.heap.objs.size f cdv)) → Gz (A.deeper (envOfC qual sc s.heap.objs.size f cdv)) → sp xs H Q E →
      ∃ t, PSs (cxOf CX P w K mg base N qual sc f cdv A os s H E) bd t ∧ t { nx := fun _ H' => Q .non H', rt := Q } (start N xs) H) : GOk P w K mg base CX (k + 1) f fd ps sp := by
  obtain ⟨oc, od, dV, kV, doc, pm, an, cdv, ct, osl, rfl, lk, hcd, _, _⟩ := F.ex
  refine ⟨nr, fun A os s H ar us xs Q E hr hG e0 hbd r hq => ?_⟩
  have inK : K.In s.heap := e0.mod.kin.keeps fun b o q => (e0.bs b o q).1
  have noLim : s.heap.NoLimit := e0.mod.nolimit.keeps fun b o q => (e0.bs b o q).1
  refine codeAny_call_function hr.depth (inK _ _ lk) rfl S.co S.gen rfl (PySem.W.codeRec_of inK hcd) (hbd _ _ _ _ ?_)
  refine wpAny_newFunctionEnv_cells S.kind (fun ⟨n, v⟩ hy => (S.par n (List.of_mem_zip hy).1).imp id fun q => ⟨q, PySem.W.cellsFrom_some _ _ _ (.inl q)⟩) fun env hE s1 z => ?_
  subst hE
  refine ⟨noLim.keeps z.toInCall.keep, codeAny_func ?_⟩
  obtain ⟨t, ht, q0⟩ := hb cdv rfl A os s H xs Q E (hr.deeper _) (hG.deep _) hq
  have I := inv_start (CX := CX) (E := E) (cd := cdv) S hr.hd e0 (nr _ _ _ _ hq) r z
  refine wpAny_mono (ht.run [] s1 (start N xs) H _ I q0) (fun g s' hs => ?_) fun _ _ q => q
  match g, hs with
  | .ret u, ⟨v, σ', H', J, rv, q⟩ => exact ⟨v, H', J.os, J.bare, J.base, J.hok, rv, q⟩
  | .next, ⟨σ', H', J, q⟩ => exact ⟨V.non, H', J.os, J.bare, J.base, J.hok, rfl, q⟩
  | .brk, ⟨_, _, _, q⟩ => exact q.elim
  | .cont, ⟨_, _, _, q⟩ => exact q.elim
end
end TB
/-! readings of the law's own statements: what is asked behind the attempt -/
namespace TB
open PySem PySem.Spec PyProof.Rows L2 NdefX LamX
section
variable {K : PySem.W.Frag} {mg : Str → Option Value} {σ : L2.St} {H H1 H2 : Hp} {i j : Nat} {Q : VK} {D : Ends} {tz : TS} {y st sn pg it d p q z : Addr} {fu b f : Bool} {n : Nat} {g0 gs : List Pg} {its : List (Option (List Int))} {E : XK} {l : List Addr} {a c x : List Int}
theorem Kp.dropL (u : Kp l H H1) (h : H z = none) (v : Kp [z] H1 H2) : Kp l H H2 := by
  have ne : ∀ {b : Addr} {o : HO}, H b = some o → b ∉ [z] := fun e w => by
    rw [List.mem_singleton.mp w, h] at e
    cases e
  exact ⟨fun b o e m => v.keep b o (u.keep b o e m) (ne e), fun b xs e => v.tup b xs (u.tup b xs e), fun b o w e => v.frz b o w (u.frz b o w e)⟩
theorem Dk.kpL (h : Dk H d p q) (k : Kp l H H1) (hl : ∀ w ∈ l, w ≠ d ∧ w ≠ p ∧ w ≠ q) : Dk H1 d p q := by
  obtain ⟨bs, cs, m, h1, h2, h3, h4⟩ := h
  exact ⟨bs, cs, m, k.keep _ _ h1 (fun w => (hl _ w).1 rfl), k.keep _ _ h2 (fun w => (hl _ w).2.1 rfl), k.keep _ _ h3 (fun w => (hl _ w).2.2 rfl), h4⟩
theorem Dk.kpT (h : Dk H d p q) (k : KpT l H H1) (hl : ∀ w ∈ l, w ≠ d ∧ w ≠ p ∧ w ≠ q) : Dk H1 d p q := by
  obtain ⟨bs, cs, m, h1, h2, h3, h4⟩ := h
  exact ⟨bs, cs, m, k.lst h1 (fun w => (hl _ w).1 rfl), k.lst h2 (fun w => (hl _ w).2.1 rfl), k.lst h3 (fun w => (hl _ w).2.2 rfl), h4⟩
theorem Dk.out (h : Dk H1 d p q) (k : Kp [d, p] H H1) (e : H1 z = none) : H z = none := by
  cases w : H z with
  | none => rfl
  | some o =>
    exfalso
    have nz := h.ne e
    rw [k.keep z o w (by simp [nz.1, nz.2.1])] at e
    cases e
theorem Dk.lists (h : Dk H d p q) : ∀ w ∈ [d, p], (∃ xs, H w = some (.lst xs)) ∨ ∃ C dx fs, H w = some (.ins C dx fs) := fun w hw => by
  obtain ⟨bs, cs, m, h1, h2, h3, h4⟩ := h
  rcases List.mem_cons.mp hw with e | e
  · rw [e]; exact .inl ⟨_, h1⟩
  · rw [List.mem_singleton.mp e]; exact .inl ⟨_, h2⟩
/-- a table stays where instances and lists change -/
theorem tabKp {P : Addr} {nm : Str} (t : TabS H P nm) (k : Kp l H H1) (hl : ∀ w ∈ l, (∃ xs, H w = some (.lst xs)) ∨ ∃ C dx fs, H w = some (.ins C dx fs)) : TabS H1 P nm := by
  have tt : Tabs [(P, nm)] H := fun r hr => by rw [List.mem_singleton.mp hr]; exact t
  refine Tabs.kp tt k (fun w hw => ?_) _ List.mem_cons_self
  rcases hl w hw with ⟨xs, e⟩ | ⟨C, dx, fs, e⟩
  · rw [e]; exact ⟨(fun φ z => nomatch z), (fun ps z => nomatch z)⟩
  · rw [e]; exact ⟨(fun φ z => nomatch z), (fun ps z => nomatch z)⟩
/-- pages.append((pair[::-1], box)) -/
theorem qback {i3 i4 ip : Nat} {v3 v4 : V} {xs : List V} (h3 : σ[i3]? = some (some v3)) (h4 : σ[i4]? = some (some v4)) (hp : σ[ip]? = some (some (.ref pg))) (e3 : Im K H v3 (pairD (a, c))) (e4 : Im K H v4 (tI x)) (hpg : H pg = some (.lst xs)) (hl : xs.length ≤ 100)
    (k : ∀ u H', Kp [pg] H H' → H' pg = some (.lst (xs ++ [u])) → Im K H' u (pageD ((c, a), x)) → tz D σ H') :
    tSeq (tDrop (tBM K "list" rAppend (tVar ip) (tCons (tTup (tCons (tBack K (tVar i3)) (tCons (tVar i4) tNil))) tNil))) tz D σ H := by
  refine qapp hp (.of hpg) ?_
  obtain ⟨r, ys, rfl, hr, hys⟩ := e3.tupI
  obtain ⟨u, w, rfl, iu, iw⟩ := hys.inv2
  refine ⟨_, h3, r, u, w, rfl, hr, fun t nt => ⟨_, h4, Evl.sz_of (by simp), fun t2 nt2 => ?_⟩⟩
  have k1 : Kp [] H (upd H t (.tup [w, u])) := .new nt
  have k2 : Kp [] (upd H t (.tup [w, u])) (upd (upd H t (.tup [w, u])) t2 (.tup [.ref t, v4])) := .new nt2
  have k12 := k1.trans k2
  refine ⟨pg, xs, .ref t2, rfl, rfl, k12.get hpg, Evl.sz_lt (by omega), ?_⟩
  have kw : Kp [pg] (upd (upd H t (.tup [w, u])) t2 (.tup [.ref t, v4])) (upd (upd (upd H t (.tup [w, u])) t2 (.tup [.ref t, v4])) pg (.lst (xs ++ [.ref t2]))) := Kp.wl (k12.get hpg) (by simp)
  have ip : Im K (upd H t (.tup [w, u])) (.ref t) (pairD (c, a)) := .tup (.of upd_same) (.cons (iw.kp k1) (.cons (iu.kp k1) .nil))
  have ig : Im K (upd (upd H t (.tup [w, u])) t2 (.tup [.ref t, v4])) (.ref t2) (pageD ((c, a), x)) := .tup (.of upd_same) (.cons (ip.kp k2) (.cons (e4.kp k12) .nil))
  exact k (.ref t2) _ (k12.up.trans kw) upd_same (ig.kp kw)
theorem its_of : ∀ {ds : List PyData}, (∀ e ∈ ds, ∃ o, e = itD o ∧ itOk n o) → ∃ its : List (Option (List Int)), ds = its.map itD ∧ ∀ o ∈ its, itOk n o
  | [], _ => ⟨[], rfl, fun o h => nomatch h⟩
  | e :: r, h => by
    obtain ⟨o, e1, e2⟩ := h e List.mem_cons_self
    obtain ⟨its, e3, e4⟩ := its_of (ds := r) (fun w hw => h w (List.mem_cons_of_mem _ hw))
    refine ⟨o :: its, by rw [e1, e3]; rfl, fun w hw => ?_⟩
    rcases List.mem_cons.mp hw with z | z
    · rw [z]; exact e2
    · exact e4 w z
theorem last_cat {g1 g2 : List Pg} (h : g2 ≠ []) : lastP (g1 ++ g2) = lastP g2 := by
  rw [last_eq (gs := g1 ++ g2) (by simp [h]), last_eq h, List.getLast_append_of_ne_nil _ h]
def foundD (last : Int) : List PyData := if last < 4 then [.str "key"] else [.str "ok", .int 4]
theorem found_sh (last : Int) : SeqAt.shaped (.list (foundD last)) = true := by
  refine shaped_list fun d hd => ?_
  unfold foundD at hd
  split at hd
  · obtain rfl := List.mem_singleton.mp hd
    exact ⟨by decide +kernel, by decide +kernel⟩
  · rcases List.mem_cons.mp hd with rfl | hd
    · exact ⟨by decide +kernel, by decide +kernel⟩
    · obtain rfl := List.mem_singleton.mp hd
      exact ⟨by decide +kernel, by decide +kernel⟩
theorem found_eq (last : Int) : PyData.eqv (.list (foundD last)) (.list (foundD last)) = true := by
  unfold foundD
  split
  · rfl
  · rfl
/-- the tried attempt, told once -/
theorem qtried {P : Addr} {nm : Str} {iy ip js il jt : Nat} {pl p0 p1 : Addr} {xs xs0 xs1 : List V} {last : Int} (tH : TabS H P nm) (s1 : σ[iy]? = some (some (.ref y))) (s2 : σ[ip]? = some (some (.ref p))) (s3 : σ[js]? = some (some (.ref sn))) (s4 : σ[il]? = some (some (.ref pl))) (s5 : σ[jt]? = some (some (.int last)))
    (hy : Yd K H y fu false g0) (hp : H p = some (.lst xs)) (hx : ImAll K H xs (its.map itD)) (gd : Gd fu n f g0) (hok : ∀ o ∈ its, itOk n o) (h2 : g0.length = 2) (h3 : its.length = 3) (hpl : H pl = some (.lst [.ref p0, .ref p1, .str "same"])) (hp0 : H p0 = some (.lst xs0)) (hp1 : H p1 = some (.lst xs1)) (x0 : ImAll K H xs0 ((pgs g0 its).map pageD)) (x1 : ImAll K H xs1 (g0.map pageD))
    (hsn : H sn = some (.lst [])) (n1 : pl ≠ sn) (n2 : p0 ≠ sn) (n3 : p1 ≠ sn) (l1 : 1 ≤ last)
    (k : ∀ r H' gs m xr, KpT [y, sn] H H' → TabS H' P nm → Yd K H' y fu false gs → Gd fu n f gs → 2 ≤ gs.length → gs.length ≤ 5 → H' sn = some (.lst (List.replicate m (.ref y))) → 1 ≤ m → m ≤ 3 → (m : Int) = (if 3 < last then 3 else last) → H' r = some (.lst xr) → ImAll K H' xr (foundD last) → (last < 4 → gs = g0) → (¬ last < 4 → lastP gs = lastP (pgs g0 its)) → tz D (σ.set j (some (.ref r))) H') :
    tSeq (tAsg (tTr K P nm iy ip js il jt) (gName j)) tz D σ H := by
  refine ⟨tH, y, p, sn, pl, p0, p1, fu, f, n, g0, its, xs, xs0, xs1, last, s1, s2, s3, s4, s5, hy, hp, hx, gd, hok, h2, h3, hpl, hp0, hp1, x0, x1, hsn, n1, n2, n3, l1, fun r H' kt t l4 hy' hs' hr => ?_, fun r H' kt t l4 hy' hs' hr => ?_⟩
  · refine k r H' g0 last.toNat _ kt t hy' gd (by omega) (by omega) hs' (by omega) (by omega) ?_ hr ?_ (fun _ => rfl) (fun h => absurd l4 h)
    · rw [if_neg (by omega)]; omega
    · unfold foundD
      rw [if_pos l4]
      exact .cons (.str _) .nil
  · have nl : ¬ last < 4 := by omega
    have pne : pgs g0 its ≠ [] := fun e => by
      have := congrArg List.length e
      rw [pgs_len, h3] at this
      cases this
    refine k r H' (appN g0 its) 3 _ kt t hy' (gd.appN hok (by omega)) (by rw [appN_len]; omega) (by rw [appN_len]; omega) hs' (by omega) (by omega) ?_ hr ?_ (fun h => absurd h nl) (fun _ => by rw [appN_pgs, last_cat pne])
    · rw [if_pos (by omega)]; rfl
    · unfold foundD
      rw [if_neg nl]
      exact .cons (.str _) (.cons (.int _) .nil)
/-- x = [.. for k in range(n)] while the deck is drawn from -/
theorem qcdR {ta : TA} {te : TE} {m : Nat} {vs : List Nat} (Pr : PyData → Prop) (hD : Dk H d p q) (h : DA K ta σ H [.int (m : Int)]) (hn : m ≤ 40000) (hw : ∀ x, wipe ((wipe σ vs).set j (some x)) vs = wipe σ vs)
    (hs : ∀ (x : V) H', Kp [d, p] H H' → Dk H' d p q → ∀ Q : VK, (∀ v e H2, Pr e → Im K H2 v e → Kp [d, p] H' H2 → Dk H2 d p q → Q v H2) → te ((wipe σ vs).set j (some x)) H' Q)
    (k : ∀ r H' xs ds, Kp [d, p] H H' → Dk H' d p q → H r = none → H' r = some (.lst xs) → ImAll K H' xs ds → ds.length = m → (∀ e ∈ ds, Pr e) → tz D (σ.set i (some (.ref r))) H') : tSeq (tAsg (tLc (iRng1 ta) (gName j) tYes te vs) (gName i)) tz D σ H :=
  (cdR Pr hD h hn hw hs k : tLc (iRng1 ta) (gName j) tYes te vs σ H fun v H1 => tz D (σ.set i (some v)) H1)
/-- found != ([..] if last < 4 else [..]) or None in seen or len(seen) != min(last, 3) -/
theorem dAsk1 {r : Addr} {xr : List V} {iff jt js : Nat} {last : Int} {m : Nat} (s1 : σ[iff]? = some (some (.ref r))) (s2 : σ[jt]? = some (some (.int last))) (s3 : σ[js]? = some (some (.ref sn))) (hr : H r = some (.lst xr)) (hx : ImAll K H xr (foundD last)) (hs : H sn = some (.lst (List.replicate m (.ref y)))) (hm : (m : Int) = (if 3 < last then 3 else last)) (hy : Yd K H y fu b gs) :
    DT (tOr (tTest (tOp (rNeD K) (tVar iff) (tIf (tTest (tOp (rI0 fun i j => .bl (decide (i < j))) (tVar jt) (tC (.int 4)))) (tLst (tCons (tC (.str "key")) tNil)) (tLst (tCons (tC (.str "ok")) (tCons (tC (.int 4)) tNil))))))
      (tOr (tTest (tOp (rNoIn K) (tC .non) (tVar js))) (tTest (tOp rNe (tCB (fun xs H Q => ∃ p ys, xs = [.ref p] ∧ (SqL K H p ys ∨ SqT K H p ys) ∧ Q (.int ys.length) H) (tCons (tVar js) tNil)) (tCB (fun xs H Q => ∃ i j, xs = [.int i, .int j] ∧ Q (.int (if j < i then j else i)) H) (tCons (tVar jt) (tCons (tC (.int 3)) tNil))))))) σ H false := by
  refine DT.is (dtor (a := false) (DT.is (dtv (dNLv (K := K) (es := foundD last) s1 (.of hr) hx (difL (b := decide (last < 4)) (dtv (dB0 (K := K) (dv s2 (.int _)) dint)) (fun e => ?_) (fun e => ?_)) (found_sh _) (found_sh _))) (by rw [found_eq]; rfl))
    (fun _ => dtor (a := false) (dtv (dNoIn (K := K) s3 hs hy)) (fun _ => dtv (dne (K := K) (dlenVr s3 hs) (dmin (dv s2 (.int _)) dint) rfl rfl rfl)))) ?_
  · unfold foundD
    rw [if_pos (of_decide_eq_true e)]
    exact dlst (dacons dstr danil)
  · unfold foundD
    rw [if_neg (of_decide_eq_false e)]
    exact dlst (dacons dstr (dacons dint danil))
  · rw [List.length_replicate, hm]
    simp
/-- last < 4 and shows(yard) != ahead or last > 3 and yard.state_at() != states[-1] -/
theorem dAsk2 {iy ja jt js : Nat} {xs : List V} {sh : Str} {last : Int} {E' : XK} (s1 : σ[iy]? = some (some (.ref y))) (s2 : σ[jt]? = some (some (.int last))) (s3 : σ[ja]? = some (some (.str sh))) (s4 : σ[js]? = some (some (.ref st))) (hy : Yd K H y fu b gs) (hg : Gd fu n f gs) (hs : H st = some (.lst xs)) (hx : ImAll K H xs (g0.map pageD)) (h0 : g0 ≠ [])
    (e1 : last < 4 → sh = (PyData.list (shL (lastP gs) gs.length n f)).shown) (e2 : ¬ last < 4 → lastP gs = lastP g0) :
    DT (tOr (tAnd (tTest (tOp (rI0 fun i j => .bl (decide (i < j))) (tVar jt) (tC (.int 4)))) (tTest (tOp rNe (tCall (sp_law_shows K) [] E (tCons (tVar iy) tNil)) (tVar ja))))
      (tAnd (tTest (tOp (rI0 fun i j => .bl (decide (j < i))) (tVar jt) (tC (.int 3)))) (tTest (tOp (rNeD K) (tMeth (kC K fu) "state_at" (sp_state_at K) [.non] E' (tVar iy) tNil) (tOp (rIxL K) (tVar js) (tUn (rU fun i => .int (-i)) (tC (.int 1)))))))) σ H false := by
  by_cases h4 : last < 4
  · refine DT.is (dtor (a := false) (DT.is (dtand (a := true) (DT.is (dtv (dB0 (K := K) (dv s2 (.int _)) dint)) (decide_eq_true h4)) (fun _ => dtv (dne (K := K) (dShows s1 hy hg) (dv s3 (.str _)) rfl rfl rfl))) ?_)
      (fun _ => DT.is (dtand (a := false) (b := false) (DT.is (dtv (dB0 (K := K) (dv s2 (.int _)) dint)) (decide_eq_false (by omega))) (fun e => nomatch e)) rfl)) rfl
    rw [e1 h4]
    simp
  · refine DT.is (dtor (a := false) (DT.is (dtand (a := false) (b := false) (DT.is (dtv (dB0 (K := K) (dv s2 (.int _)) dint)) (decide_eq_false h4)) (fun e => nomatch e)) rfl)
      (fun _ => DT.is (dtand (a := true) (DT.is (dtv (dB0 (K := K) (dv s2 (.int _)) dint)) (decide_eq_true (by omega))) (fun _ => dtv (dNE (K := K) (dState0 s1 hy hg.ne) (dLast (K := K) (ta := tVar 0) s4 hs hx h0) (sh_page _) (sh_page _)))) rfl)) ?_
    rw [e2 h4, eq_page]
    rfl
theorem inext {c : TT} {t u : TS} {r : VK} {bk ct : L2.St → Hp → Prop} (h : tIfS c t u D σ H) : tNext { nx := tIfS c t u D, rt := r, bk := bk, ct := ct } σ H := h
/-- yard.swap() != yard.version or yard.undo() != yard.version or seen[0].version != yard.version -/
theorem qend {iy js m : Nat} {te : TE} {E1 E2 E3 E4 E5 E6 : XK} (Y : Yrd K mg) (s1 : σ[iy]? = some (some (.ref y))) (s2 : σ[js]? = some (some (.ref sn))) (hy : Yd K H y fu false gs) (hg : Gd fu n f gs) (g2 : 2 ≤ gs.length) (g5 : gs.length ≤ 5) (hs : H sn = some (.lst (List.replicate m (.ref y)))) (m1 : 1 ≤ m) (m3 : m ≤ 3) (k : ∀ H', Kp [y] H H' → D.nx σ H') :
    tIfS (tOr (tTest (tOp rNe (tMeth (kC K fu) "swap" (sp_swap K) [] E1 (tVar iy) tNil) (tProp (kC K fu) (sp_Y_version K) [] E2 (tVar iy)))) (tOr (tTest (tOp rNe (tMeth (kC K fu) "undo" (sp_undo K) [] E3 (tVar iy) tNil) (tProp (kC K fu) (sp_Y_version K) [] E4 (tVar iy))))
      (tTest (tOp rNe (tProp (kC K fu) (sp_Y_version K) [] E5 (tOp (rIxL K) (tVar js) (tC (.int 0)))) (tProp (kC K fu) (sp_Y_version K) [] E6 (tVar iy)))))) (tRet te) tNext D σ H := by
  obtain ⟨dx, pa, la, t1, t2, t3⟩ := id hy
  refine ⟨_, s1, y, dx, _, rfl, t1, yl_swap _ _ _, y, fu, false, gs, rfl, hy, EdP.go hg (by omega) fun Ha ka ha => ?_⟩
  refine (dVers (K := K) Y s1 ha) Ha .refl _ fun w Hb kb hw => ?_
  obtain rfl := hw.intI
  refine neSame (by rw [ln_app1]; congr 1; omega) rfl (ifF ?_)
  have hga := hg.app (o := none) trivial (by omega)
  have hb := ha.up kb
  obtain ⟨dy, pb, lb, u1, u2, u3⟩ := id hb
  refine ⟨_, s1, y, dy, _, rfl, u1, yl_undo _ _ _, y, fu, false, _, rfl, hb, UnP.go hga (by rw [ln_app1]; omega) fun Hc kc hc => ?_⟩
  rw [drop_app] at hc
  refine (dVers (K := K) Y s1 hc) Hc .refl _ fun w Hd kd hw => ?_
  obtain rfl := hw.intI
  refine neSame (by rw [ln_app1]; congr 1; omega) rfl (ifF ?_)
  have hd := hc.up kd
  have nys : sn ∉ [y] := fun e => by
    rw [List.mem_singleton.mp e, t1] at hs
    cases hs
  have kall : Kp [y] H Hd := (ka.trans kb.up).trans (kc.trans kd.up)
  have hsd := kall.keep sn _ hs nys
  obtain ⟨dz, pc, lc, v1, v2, v3⟩ := id hd
  have h0 : (List.replicate m (V.ref y))[0]? = some (.ref y) := by rw [List.getElem?_replicate]; simp; omega
  refine ⟨_, s2, sn, _, 0, .ref y, rfl, rfl, .of hsd, atI_nat (j := 0) h0, y, dz, _, rfl, v1, y, fu, false, gs, rfl, hd, fun He ke => ?_⟩
  refine (dVers (K := K) Y s1 (hd.up ke)) He .refl _ fun w Hf kf hw => ?_
  obtain rfl := hw.intI
  refine neSame rfl rfl (ifF ?_)
  exact k Hf (kall.trans (ke.trans kf).up)
end
end TB
namespace TB
open PySem PySem.Spec PyProof.Rows L2
section
variable {P : Program} {w : World} {K : PySem.W.Frag} {mg : Str → Option Value} {base : Heap}
open NdefX LamX
abbrev nl_law : List Str := ["_law_script", "_law_deck_here", "_law_turn", "_law_pair_here", "_law_box", "_law_full", "_law_yard", "_law_pages", "_law_items", "_law_k", "_law_states", "_law_last", "_law_seen", "_law_item", "_law_ahead", "_law_plan", "_law_found"]
theorem sc_law : FnScope nl_law ["_law_script"] (defScope s_law) := ⟨rfl, rfl, rfl, by decide +kernel, rfl, by decide +kernel, by decide +kernel⟩

abbrev lqL : Str := (("law" : Str) ++ ".<locals>.") ++ "<lambda>"
def sp_law (K : PySem.W.Frag) (PT : Addr) : Sp := fun vs H Q _ => ∃ (a : Addr) (ns : List Int), vs = [.ref a] ∧ SqL K H a (ns.map V.int) ∧ ns.length ≤ 63 ∧ H PT = some (.tbl #[]) ∧ ∀ H', Q (.bl true) H'
theorem okG_law {c PT : Addr} (tb : TabB base mg c PT) (hcd : (fdA K (He.ga K "law")).code = .ref c) (T : Txt K mg) (B : Tab K w mg) (Y : Yrd K mg) (Xn : Exn K mg) (FI : FIni P K mg) (Sl : Shl K mg) (bm : ∀ fu, BMeth K (kC K fu) "edit" (He.ma K (He.ga K "Yard") "edit")) (kN : PySem.W.kitOne K (.type "NoneType") (.ref (He.ga K "Yard")) = some false) :
    GOk P w K mg base (L2.CX P w) 33 (He.ga K "law") (fdA K (He.ga K "law")) ["_law_script"] (sp_law K PT) := by
  refine gokC T.f_law sc_law (fun vs H Q E h => ?_) (fun cdv ecd A outer s H vs Q E hr hG h => ?_)
  · obtain ⟨a, ns, rfl, ha, hn, ht, k⟩ := h
    rfl
  · have nd := sc_law.nd
    have hu := hr.units
    have hco : cdv = .ref c := ecd.symm.trans hcd
    subst hco
    have hco : (Value.ref c) = .ref c := rfl
    obtain ⟨a, ns, rfl, ha, hn, ht, k⟩ := h
    refine ⟨_, (pss_cons (ps_set (i := 1) nd rfl (Or.inr rfl) (pe_call (ok_law_deck T) (hr.mono (by decide)) (by rfl) T.g_law_deck (T.f_law_deck.kp) (T.b_law_deck) .nil pass0 (pa_cons (pv 0) pa_nil)))
      (pss_cons (ps_for (passes_of rfl) rfl (pi_range1 (by rfl) T.n_range (pa_cons pe_int pa_nil)) (pg_name (i := 2) nd rfl (Or.inl rfl)) (pss_cons (ps_asg (pe_call (ok_law_start T) (hr.mono (by decide)) (by rfl) T.g_law_start (T.f_law_start.kp) (T.b_law_start) .nil pass0 (pa_cons (pv 1) pa_nil)) (pgT (K := K) (n := 2) rfl rfl (pgs_cons (pg_name (i := 3) nd rfl (Or.inl rfl)) (pgs_cons (pg_name (i := 4) nd rfl (Or.inr rfl)) pgs_nil))))
      (pss_cons (ps_set (i := 5) nd rfl (Or.inl rfl) (pe_and (pe_cmpR op_eq (pe_call (ok_law_draw T) (hr.mono (by decide)) (by rfl) T.g_law_draw (T.f_law_draw.kp) (T.b_law_draw) .nil pass0 (pa_cons (pv 1) (pa_cons pe_int pa_nil))) pe_int (nomark _)) (pe_one (pe_call (ok_law_is_filled T) (hr.mono (by decide)) (by rfl) T.g_law_is_filled (T.f_law_is_filled.kp) (T.b_law_is_filled) .nil pass0 (pa_cons (pv 3) (pa_cons (pv 4) pa_nil))))))
      (pss_cons (ps_asg (pe_tup (pa_cons (pe_ifExp (pt_val (pv 5)) (StX.pe_makeR (C := kC K true) (Y.kl true).mi (ok_F_init T B Y FI) (hr.mono (by decide)) (by rfl) Y.gF pass0 (pa_cons (pv 3) (pa_cons (pv 4) pa_nil))) (pe_make (Y.kl false).mi (ok_Y_init (K := K) T B Y) (hr.mono (by decide)) (by rfl) Y.gY T.b_Y_init .nil pass0 (pa_cons (pv 3) (pa_cons (pv 4) pa_nil)))) (pa_cons (pe_lst (pa_cons (pe_tup (pa_cons (pv 3) (pa_cons (pv 4) pa_nil))) pa_nil)) pa_nil))) (pgT (K := K) (n := 2) rfl rfl (pgs_cons (pg_name (i := 6) nd rfl (Or.inr rfl)) (pgs_cons (pg_name (i := 7) nd rfl (Or.inl rfl)) pgs_nil))))
      (pssEx fun fu => (pss_cons (ps_expr (pe_meth0 (pv 6) (Y.kl fu).cl (Y.kl fu).m_swap (ok_Y_swap (K := K) T B Y) (hr.mono (by decide)) T.b_Y_swap .nil (passes_call (takes_of rfl rfl rfl rfl) (fun _ _ _ _ h => h))))
      (pss_cons (ps_expr (pe_bm PySem.F.plainAttrs_list PySem.F.slot_list_append PySem.F.type_list_append mt_append (pv 7) (pa_cons (pe_tup (pa_cons (peBack (K := K) rfl (pv 3)) (pa_cons (pv 4) pa_nil))) pa_nil)))
      (pss_cons (ps_setLc (i := 8) (own := [("_law_k", 9)]) rfl nd rfl rfl (sw_true rfl rfl rfl (by decide +kernel)) (pi_range1 (by rfl) T.n_range (pa_cons pe_int pa_nil)) (blkOk_by (N := nl_law) (sc := defScope s_law) (by decide +kernel)) (fun _ _ _ _ _ => (pg_name (i := 9) nd rfl (Or.inl rfl))) (fun _ _ _ _ _ => pts_nil) (fun _ _ _ _ _ => (pe_call (ok_law_one T) (hr.mono (by decide)) (by rfl) T.g_law_one (T.f_law_one.kp) (T.b_law_one) .nil pass0 (pa_cons (pv 1) (pa_cons (pe_lst (pa_cons (pe_tup (pa_cons pe_str pa_nil)) (pa_cons (pe_tup (pa_cons pe_str (pa_cons (pe_callTy (clTuple (K := K) rfl) (by rfl) T.n_tuple (by decide +kernel) (pa_cons (pe_call (ok_law_mixed T) (hr.mono (by decide)) (by rfl) T.g_law_mixed (T.f_law_mixed.kp) (T.b_law_mixed) .nil pass0 (pa_cons (pv 1) (pa_cons (pe_listRg rfl (by rfl) T.n_list (prg_1 (by rfl) T.n_range (pe_callB (clLen (K := K) rfl) (by rfl) T.n_len (by decide +kernel) (pa_cons (pv 4) pa_nil)))) pa_nil))) pa_nil)) pa_nil))) pa_nil))) pa_nil)))))
      (pss_cons (ps_asg (pe_tup (pa_cons (pe_lst pa_nil) (pa_cons (pe_op op_add pe_int (pe_call (ok_law_draw T) (hr.mono (by decide)) (by rfl) T.g_law_draw (T.f_law_draw.kp) (T.b_law_draw) .nil pass0 (pa_cons (pv 1) (pa_cons pe_int pa_nil)))) (pa_cons (pe_lst pa_nil) pa_nil)))) (pgT (K := K) (n := 3) rfl rfl (pgs_cons (pg_name (i := 10) nd rfl (Or.inl rfl)) (pgs_cons (pg_name (i := 11) nd rfl (Or.inr rfl)) (pgs_cons (pg_name (i := 12) nd rfl (Or.inr rfl)) pgs_nil)))))
      (pss_cons (ps_for (passes_of rfl) rfl (piL (K := K) rfl (pv 8)) (pg_name (i := 13) nd rfl (Or.inl rfl)) (pss_one (ps_expr (pe_bm PySem.F.plainAttrs_list PySem.F.slot_list_append PySem.F.type_list_append mt_append (pv 10) (pa_cons (pe_call (ok_law_page_after T) (hr.mono (by decide)) (by rfl) T.g_law_page_after (T.f_law_page_after.kp) (T.b_law_page_after) .nil pass0 (pa_cons (pe_ix (ixL (K := K) rfl) (pe_op op_cat (pv 7) (pv 10)) (pe_un un_neg pe_int) (fun _ _ => rfl)) (pa_cons (pv 13) pa_nil))) pa_nil)))))
      (pss_cons (ps_asg (pe_tup (pa_cons (peCall1 (GOk.at (okG_law_shows (K := K) T B Y) T.b_law_shows (hr.mono (by decide)) hG) (by rfl) T.g_law_shows T.f_law_shows.kp pass0 (pa_cons (pv 6) pa_nil)) (pa_cons (pe_lst (pa_cons (pv 10) (pa_cons (pv 7) (pa_cons pe_str pa_nil)))) pa_nil))) (pgT (K := K) (n := 2) rfl rfl (pgs_cons (pg_name (i := 14) nd rfl (Or.inl rfl)) (pgs_cons (pg_name (i := 15) nd rfl (Or.inr rfl)) pgs_nil))))
      (pss_cons (ps_set (i := 16) nd rfl (Or.inl rfl) (peTried (lq := lqL) (iy := 6) (ip := 8) (js := 12) (il := 15) (jt := 11) tb hco rfl hr hG T B Y Xn FI Sl bm (by rfl) rfl rfl rfl rfl rfl (.inl rfl) (nscope_by (by decide +kernel)) rfl (by show ∀ y ∈ frL, (defScope s_law).names.lookup y = some .cell; decide +kernel) (fun _ _ => rfl) rfl (fun _ _ _ _ _ _ => rfl)))
      (pss_cons (ps_if (PW.pt (pw_or (pt_cmpR (opNeD (K := K) rfl hu) (pv 16) (pe_ifExp (pt_cmpR op_lt (pv 11) pe_int (nomark _)) (pe_lst (pa_cons pe_str pa_nil)) (pe_lst (pa_cons pe_str (pa_cons pe_int pa_nil)))) (nomark _)) (pw_or (pt_cmpR (op_noIn (E := E0) Y rfl (fun fu => (Y.kl fu).o_eq) (ok_Y_eqN (K := K) T B Y kN) T.b_Y_eq pass0 (hr.mono (by decide))) pe_non (pv 12) (by rfl)) (pw_or1 (pt_cmpR op_ne (pe_callB (clLen (K := K) rfl) (by rfl) T.n_len (by decide +kernel) (pa_cons (pv 12) pa_nil)) (pe_callB (call_min2 rfl) (by rfl) T.n_min (by decide +kernel) (pa_cons (pv 11) (pa_cons pe_int pa_nil))) (nomark _)))))) (pss_one (ps_ret pe_bl)) pss_nil)
      (pss_cons (ps_if (PW.pt (pw_or (PW.pt (pw_and (pt_cmpR op_lt (pv 11) pe_int (nomark _)) (pw_and1 (pt_cmpR op_ne (peCall1 (GOk.at (okG_law_shows (K := K) T B Y) T.b_law_shows (hr.mono (by decide)) hG) (by rfl) T.g_law_shows T.f_law_shows.kp pass0 (pa_cons (pv 6) pa_nil)) (pv 14) (nomark _))))) (pw_or1 (PW.pt (pw_and (pt_cmpR op_gt (pv 11) pe_int (nomark _)) (pw_and1 (pt_cmpR (opNeD (K := K) rfl hu) (pe_meth0 (pv 6) (Y.kl fu).cl (Y.kl fu).m_state_at (ok_Y_state_at (K := K) T B Y) (hr.mono (by decide)) T.b_st.choose_spec.2 T.b_st.choose_spec.1 pass0) (pe_ix (ixL (K := K) rfl) (pv 10) (pe_un un_neg pe_int) (fun _ _ => rfl)) (nomark _)))))))) (pss_one (ps_ret pe_bl)) pss_nil)
      (pss_one (ps_if (PW.pt (pw_or (pt_cmpR op_ne (pe_meth0 (pv 6) (Y.kl fu).cl (Y.kl fu).m_swap (ok_Y_swap (K := K) T B Y) (hr.mono (by decide)) T.b_Y_swap .nil (passes_call (takes_of rfl rfl rfl rfl) (fun _ _ _ _ h => h))) (pe_prop (pv 6) (Y.kl fu).cl (Y.kl fu).p_version.choose_spec (ok_Y_version (K := K) T B Y) (hr.mono (by decide)) T.b_Y_version .nil pass0 (by rfl)) (nomark _)) (pw_or (pt_cmpR op_ne (pe_meth0 (pv 6) (Y.kl fu).cl (Y.kl fu).m_undo (ok_Y_undo (K := K) T B Y) (hr.mono (by decide)) T.b_Y_undo .nil (passes_call (takes_of rfl rfl rfl rfl) (fun _ _ _ _ h => h))) (pe_prop (pv 6) (Y.kl fu).cl (Y.kl fu).p_version.choose_spec (ok_Y_version (K := K) T B Y) (hr.mono (by decide)) T.b_Y_version .nil pass0 (by rfl)) (nomark _)) (pw_or1 (pt_cmpR op_ne (pe_prop (pe_ix (ixL (K := K) rfl) (pv 12) pe_int (fun _ _ => rfl)) (Y.kl fu).cl (Y.kl fu).p_version.choose_spec (ok_Y_version (K := K) T B Y) (hr.mono (by decide)) T.b_Y_version .nil pass0 (by rfl)) (pe_prop (pv 6) (Y.kl fu).cl (Y.kl fu).p_version.choose_spec (ok_Y_version (K := K) T B Y) (hr.mono (by decide)) T.b_Y_version .nil pass0 (by rfl)) (nomark _)))))) (pss_one (ps_ret pe_bl)) pss_nil))))))))))))))))
      (pss_one (ps_ret pe_bl)))), ?_⟩
    refine ⟨_, rfl, a, ns, rfl, ha, hn, fun d p q H1 k1 _ _ _ hD1 => ?_⟩
    have hT1 : TabS H1 PT lqL := .nil (k1.get ht)
    refine qforR (K := K) (n := 3) (dacons (DE.is dint rfl) danil) (by decide)
      (fun i σ' H' => (∃ x2 x3 x4 x5 x6 x7 x8 x9 x10 x11 x12 x13 x14 x15 x16 : Option V, σ' = [some (.ref a), some (.ref d), x2, x3, x4, x5, x6, x7, x8, x9, x10, x11, x12, x13, x14, x15, x16]) ∧ Dk H' d p q ∧ TabS H' PT lqL)
      (fun H2 k2 => ⟨⟨none, none, none, none, none, none, none, none, none, none, none, none, none, none, none, rfl⟩, hD1.kp k2, tabKp hT1 k2 (fun w hw => nomatch hw)⟩) (fun i σ' H0 hi pv => ?_) (fun σ' H' _ => k H')
    clear k1 ht hT1 hD1
    obtain ⟨⟨x2, x3, x4, x5, x6, x7, x8, x9, x10, x11, x12, x13, x14, x15, x16, e⟩, hD0, hT0⟩ := pv
    subst e
    -- the page to begin with
    refine ⟨_, rfl, d, p, q, rfl, hD0, fun v la lb lx Ha hB ka hDa iv => ?_⟩
    refine gT2 (K := K) (e := pairD (la, lb)) (f := tI lx) iv fun v3 v4 i3 i4 => ?_
    refine qfull (K := K) rfl rfl rfl hDa i3 i4 hB fun ff Hb hf kb hDb => ?_
    refine qmk (K := K) rfl rfl rfl (i3.kp kb) (i4.kp kb) hB hf fun y pg xs Hc kc ny npg nyp hy hpg hxs => ?_
    have yd := hDb.ne ny
    have pd := hDb.ne npg
    have y0 := hDb.out (ka.trans kb) ny
    have p0 := hDb.out (ka.trans kb) npg
    have kk : Kp [d, p] H0 Hc := ka.trans (kb.trans kc.up)
    have yD : ∀ w ∈ [y], w ≠ d ∧ w ≠ p ∧ w ≠ q := fun w hw => by rw [List.mem_singleton.mp hw]; exact yd
    have pD : ∀ w ∈ [pg], w ≠ d ∧ w ≠ p ∧ w ≠ q := fun w hw => by rw [List.mem_singleton.mp hw]; exact pd
    have yDP : y ∉ [d, p] := by simp [yd.1, yd.2.1]
    have pDP : pg ∉ [d, p] := by simp [pd.1, pd.2.1]
    have hD := hDb.kp kc
    replace i3 := (i3.kp kb).kp kc
    replace i4 := (i4.kp kb).kp kc
    have hg1 : Gd ff lx.length (fillB la lb lx) [((la, lb), lx)] := ⟨by simp, fun g hgm => by rw [List.mem_singleton.mp hgm]; exact ⟨hB, rfl, rfl⟩, hf, by simp⟩
    have hg2 : Gd ff lx.length (fillB la lb lx) [((la, lb), lx), ((lb, la), lx)] := hg1.app (o := none) trivial (by simp)
    clear hDa hDb ka kb kc hf
    refine ⟨ff, ?_⟩
    generalize fillB la lb lx = f at *
    -- a swap
    obtain ⟨dx, pa, l0, t1, t2, t3⟩ := id hy
    refine ⟨_, rfl, y, dx, _, rfl, t1, yl_swap _ _ _, y, ff, false, _, rfl, hy, EdP.go hg1 (by simp) fun Hd kd hyd => ?_⟩
    clear t1 t2 t3
    replace kk := kk.dropL y0 kd
    replace hD := hD.kpL kd yD
    replace hpg := kd.keep _ _ hpg (by simp; exact Ne.symm nyp)
    replace hxs := hxs.kp kd
    replace i4 := i4.kp kd
    -- the page behind it
    have lx1 : xs.length = 1 := hxs.len
    refine qback (K := K) rfl rfl rfl (i3.kp kd) i4 hpg (by omega) fun u He ke hpge iu => ?_
    replace kk := kk.dropL p0 ke
    replace hD := hD.kpL ke pD
    replace hyd := hyd.kp ke (by simp; exact nyp)
    replace i4 := i4.kp ke
    have ix1 : ImAll K He (xs ++ [u]) ([(((la, lb), lx) : Pg), ((lb, la), lx)].map pageD) := (hxs.kp ke).app (.cons iu .nil)
    clear hxs iu hy i3
    -- the items
    refine qcdR (K := K) (m := 3) (fun e => ∃ o, e = itD o ∧ itOk lx.length o) hD (dacons (DE.is dint rfl) danil) (by decide) (fun _ => rfl) ?items fun it Hf xi ds kf hDf nit hit hxi hlen hall => ?_
    case items => exact fun x H' k1 hD1 Q1 q1 => spItem (K := K) (i1 := 1) (ib := 4) rfl rfl (i4.kp k1) hD1 hB.l1 hB.l4 fun v e H2 he iv2 k2 hD2 => q1 v e H2 he iv2 k2 hD2
    obtain ⟨its, rfl, hok⟩ := its_of hall
    rw [List.length_map] at hlen
    replace kk := kk.trans kf
    replace hyd := hyd.kp kf yDP
    replace hpge := kf.keep pg _ hpge pDP
    replace ix1 := ix1.kp kf
    have itd := hD.ne nit
    have itDP : it ∉ [d, p] := by simp [itd.1, itd.2.1]
    clear hD hall i4 iv
    -- the states, the last, the seen
    refine qthree (K := K) rfl hDf fun st sn last Hg l1 kg hDg nst nsn nss hst hsn => ?_
    have sd := hDf.ne nst
    have st0 := hDf.out kk nst
    have sn0 := hDf.out kk nsn
    have snd := hDf.ne nsn
    have itn : it ≠ st := fun e => by rw [e, nst] at hit; cases hit
    have hyg := hyd.kp kg yDP
    have hpgg := kg.keep pg _ hpge pDP
    have hitg := kg.keep it _ hit itDP
    have pns : pg ≠ st := fun e => by rw [← e, hpge] at nst; cases nst
    have ptn : pg ≠ sn := fun e => by rw [← e, hpge] at nsn; cases nsn
    have yns : y ≠ st := fun e => by
      obtain ⟨dy, pa2, la2, w1, _⟩ := hyd
      rw [← e, w1] at nst
      cases nst
    have ynn : y ≠ sn := fun e => by
      obtain ⟨dy, pa2, la2, w1, _⟩ := hyd
      rw [← e, w1] at nsn
      cases nsn
    replace kk := kk.trans kg
    clear hyd hpge hit
    refine qstates (K := K) (g0 := [((la, lb), lx), ((lb, la), lx)]) (its := its) rfl rfl rfl (by decide) (by decide) (by show 13 < 17; decide) hitg (hxi.kp kg) hpgg (ix1.kp kg) hst itn pns hg2 hok (by omega) (by simp) fun σ' xs2 Hh hσ kh hsx ixs => ?_
    obtain ⟨z13, e⟩ : ∃ z13 : Option V, σ' = [some (.ref a), some (.ref d), some (.int i), some v3, some v4, some (.bl ff), some (.ref y), some (.ref pg), some (.ref it), x9, some (.ref st), some (.int last), some (.ref sn), z13, x14, x15, x16] := by
      rcases hσ with e | ⟨z, e⟩
      · exact ⟨_, e⟩
      · exact ⟨_, e⟩
    subst e
    clear hσ
    replace kk := kk.dropL st0 kh
    have stD : ∀ w ∈ [st], w ≠ d ∧ w ≠ p ∧ w ≠ q := fun w hw => by rw [List.mem_singleton.mp hw]; exact sd
    have hDh := hDg.kpL kh stD
    have hyh := hyg.kp kh (by simp; exact yns)
    have hpgh := kh.keep pg _ hpgg (by simp; exact pns)
    have hith := kh.keep it _ hitg (by simp; exact itn)
    have hsnh := kh.keep sn _ hsn (by simp; exact Ne.symm nss)
    have xih := (hxi.kp kg).kp kh
    have ix1h := (ix1.kp kg).kp kh
    clear hyg hpgg hitg hsn hxi ix1 hst
    -- the plan
    refine qplan (K := K) rfl rfl rfl hyh hg2 fun pl Hi ki npl hpl => ?_
    replace kk := kk.trans ki.up
    have pln : pl ≠ sn := fun e => by rw [e, hsnh] at npl; cases npl
    have hTi := tabKp hT0 kk hD0.lists
    -- the attempt
    refine qtried (K := K) hTi rfl rfl rfl rfl rfl (hyh.up ki) (ki.get hith) (xih.kp ki) hg2 hok rfl hlen hpl (ki.get hsx) (ki.get hpgh) (ixs.kp ki) (ix1h.kp ki) (ki.get hsnh) pln nss ptn l1 fun r Hj gs m xr kj hTj hyj hgj g2 g5 hsj m1 m3 hm hrj hxr q1 q2 => ?_
    have stj : st ∉ [y, sn] := by simp [Ne.symm yns, nss]
    have hstj := kj.lst (ki.get hsx) stj
    have ixj := (ixs.kp ki).kpT kj
    have ysD : ∀ w ∈ [y, sn], w ≠ d ∧ w ≠ p ∧ w ≠ q := fun w hw => by
      rcases List.mem_cons.mp hw with e | e
      · rw [e]; exact yd
      · rw [List.mem_singleton.mp e]; exact snd
    have hDj := (hDh.kp ki).kpT kj ysD
    have pne : pgs [((la, lb), lx), ((lb, la), lx)] its ≠ [] := fun e => by
      have := congrArg List.length e
      rw [pgs_len, hlen] at this
      cases this
    clear hyh hpgh hith hsnh xih ix1h ixs hsx hTi kk
    -- asked behind it
    refine qif (b := false) (dAsk1 (K := K) rfl rfl rfl hrj hxr hsj hm hyj) (fun e => nomatch e) (fun _ Hk kk => ?_)
    refine snext ?_
    refine qif (b := false) (dAsk2 (K := K) rfl rfl rfl rfl (hyj.up kk) hgj (kk.get hstj) (ixj.kp kk) pne (fun h4 => by rw [q1 h4]) q2) (fun e => nomatch e) (fun _ Hl kl => ?_)
    refine inext ?_
    have k2 := kk.trans kl
    refine qend (K := K) Y rfl rfl (hyj.up k2) hgj g2 g5 (k2.get hsj) m1 m3 fun Hm km => ?_
    obtain ⟨dy, pb, lb2, w1, _⟩ := id (hyj.up k2)
    exact ⟨⟨_, _, _, _, _, _, _, _, _, _, _, _, _, _, _, rfl⟩, (hDj.kp k2).kpL km yD, tabKp (tabKp hTj k2 (fun w hw => nomatch hw)) km (fun w hw => by rw [List.mem_singleton.mp hw]; exact .inr ⟨_, _, _, w1⟩)⟩

end
end TB
/-! what the top leaves, looked at as Bools -/
namespace He
theorem bx {bs : List Bool} (h : bs.all id = true) (i : Nat) {b : Bool} (e : bs[i]? = some b) : b = true := List.all_eq_true.mp h b (List.mem_of_getElem? e)
end He
namespace TB
open PySem PySem.Spec PyProof.Rows L2
section
variable {K : PySem.W.Frag} {C f : Addr} {m : Str}
theorem bNo_ok (h : bNo K C m = true) : NoAttr K C m := He.eqO_ok h
theorem bCls_ok (h : bCls K C = true) : Cls K C := by
  obtain ⟨a, h⟩ := He.ba h
  obtain ⟨b, h⟩ := He.ba h
  obtain ⟨c, d⟩ := He.ba h
  exact ⟨a, b, c, He.eqO_ok d⟩
theorem bMeth_ok (h : bMeth K C m f = true) : Meth K C m f := by
  obtain ⟨a, h⟩ := He.ba h
  obtain ⟨b, c⟩ := He.ba h
  exact ⟨He.eqO_ok a, b, c⟩
theorem bOwn_ok (h : bOwn K C m f = true) : Own K C m f := by
  obtain ⟨a, b⟩ := He.ba h
  exact ⟨He.eqO_ok a, b⟩
theorem bMk_ok (h : bMk K C f = true) : Mk K C f := by
  obtain ⟨a, h⟩ := He.ba h
  obtain ⟨b, h⟩ := He.ba h
  obtain ⟨c, d⟩ := He.ba h
  exact ⟨a, He.eqO_ok b, c, d⟩
theorem bCallO_ok (h : bCallO K C f = true) : StX.CallO K C f := by
  obtain ⟨a, h⟩ := He.ba h
  obtain ⟨b, c⟩ := He.ba h
  exact ⟨He.eqO_ok a, b, c⟩
theorem bBMeth_ok (h : bBMeth K C m f = true) : BMeth K C m f := by
  obtain ⟨a, h⟩ := He.ba h
  obtain ⟨b, h⟩ := He.ba h
  obtain ⟨c, h⟩ := He.ba h
  obtain ⟨d, e⟩ := He.ba h
  exact ⟨bMeth_ok a, He.eqO_ok b, of_decide_eq_true c, by simpa using d, e⟩
theorem bExcC_ok (h : bExcC K C = true) : ExcC K C := by
  obtain ⟨h0, h⟩ := He.ba h
  obtain ⟨h1, h⟩ := He.ba h
  obtain ⟨h2, h⟩ := He.ba h
  obtain ⟨h3, h⟩ := He.ba h
  obtain ⟨h4, h⟩ := He.ba h
  obtain ⟨h5, h⟩ := He.ba h
  obtain ⟨h6, h7⟩ := He.ba h
  exact ⟨He.eqO_ok h0, He.eqO_ok h1, of_decide_eq_true h2, h3, He.eqO_ok h4, He.eqO_ok h5, of_decide_eq_true h6, of_decide_eq_true h7⟩
theorem bProp_ok {g : Addr} (h : bProp K C m g = true) : ∃ p, PropOf K C m p g := by
  unfold bProp at h
  split at h
  · rename_i p e
    obtain ⟨a, h⟩ := He.ba h
    obtain ⟨b, c⟩ := He.ba h
    split at c
    · rename_i v r e2
      have e3 := of_decide_eq_true c
      subst e3
      exact ⟨p, e, He.eqO_ok a, of_decide_eq_true b, _, e2⟩
    · cases c
  · cases h
theorem bCon_ok {v : V} (h : bCon K C m v = true) : ∃ u, Con K C m v u := by
  unfold bCon at h
  split at h
  · rename_i u e
    obtain ⟨a, h⟩ := He.ba h
    obtain ⟨b, c⟩ := He.ba h
    exact ⟨u, e, He.relB_ok a, He.eqO_ok b, by simpa using c⟩
  · cases h
theorem bAt_ok {d : Addr} {v : V} (h : bAt K d m v = true) : ∃ u, PySem.W.nsIn K d m = some (some u) ∧ RelV v u := by
  unfold bAt at h
  split at h
  · rename_i u e
    exact ⟨u, e, He.relB_ok h⟩
  · cases h
end
/-! ### functions by their own addresses -/
theorem fdF {K : PySem.W.Frag} {x q : Str} {pr : Arguments} {bd : List Stmt} {sc : Scope} {dv : List V} {kw : List (Str × V)} {f : Addr} (h : ∃ fd, FunD K x q pr bd sc dv kw f fd) : FunD K x q pr bd sc dv kw f (fdA K f) := by
  obtain ⟨fd, F⟩ := h
  have e : fdA K f = fd := by
    obtain ⟨oc, od, dV, kV, doc, pm, an, cdv, ct, osl, e1, lk, _⟩ := F.ex
    unfold fdA
    rw [lk]
  rw [e]
  exact F
theorem prF {K : PySem.W.Frag} {d : PD} (e : fnX K (d.at_ K) = d.val) (c : bFun K (d.at_ K) d.qual = true) (hcl : d.cl = [] := by rfl) : FunD K d.name d.qual d.params d.body d.scope [] [] (d.at_ K) (fdA K (d.at_ K)) := by
  refine fdF ?_
  unfold fnX at e
  unfold bFun at c
  cases q : K.lookup (d.at_ K) with
  | none =>
    rw [q] at c
    cases c
  | some o =>
    obtain ⟨oc, od, dt, sl⟩ := o
    rw [q] at c e
    cases dt with
    | func fd =>
      obtain ⟨n1, n2, n3, n4, n5, n6, n7, n8, n9, n10, n11, n12, n13, n14, n15⟩ := fd
      have e2 : (some (n1, n2, n3, n4, n5, n6, n7.map (·.1), n15) : FnX) = some (d.name, d.qual, d.params, .stmts d.body, d.scope, mainGlobals, d.cl, builtinsNs) := e
      simp only [Option.some.injEq, Prod.mk.injEq] at e2
      obtain ⟨h1, h2, h3, h4, h5, h6, h7, h8⟩ := e2
      rw [hcl] at h7
      have h7' : n7 = [] := List.map_eq_nil_iff.mp h7
      subst h1 h2 h3 h4 h5 h6 h7' h8
      obtain ⟨k1, c⟩ := He.ba c
      obtain ⟨k2, c⟩ := He.ba c
      obtain ⟨k3, k4⟩ := He.ba c
      exact ⟨_, ⟨oc, od, n8, n9, n10, n11, n12, n13, n14, sl, rfl, q, k2, He.dflB_ok k3, He.kwdB_ok k4⟩, k1⟩
    | _ => cases c
/-! ### the lower class's __init__ -/
theorem bKl_ok {K : PySem.W.Frag} {fu : Bool} (c : bKl K fu = true) : Kl K fu := by
  obtain ⟨h0, c⟩ := He.ba c
  obtain ⟨h1, c⟩ := He.ba c
  obtain ⟨h2, c⟩ := He.ba c
  obtain ⟨h3, c⟩ := He.ba c
  obtain ⟨h4, c⟩ := He.ba c
  obtain ⟨h5, c⟩ := He.ba c
  obtain ⟨h6, c⟩ := He.ba c
  obtain ⟨h7, c⟩ := He.ba c
  obtain ⟨h8, c⟩ := He.ba c
  obtain ⟨h9, c⟩ := He.ba c
  obtain ⟨h10, c⟩ := He.ba c
  obtain ⟨h11, c⟩ := He.ba c
  obtain ⟨h12, c⟩ := He.ba c
  obtain ⟨h13, c⟩ := He.ba c
  obtain ⟨h14, c⟩ := He.ba c
  obtain ⟨h15, c⟩ := He.ba c
  obtain ⟨h16, c⟩ := He.ba c
  obtain ⟨h17, c⟩ := He.ba c
  obtain ⟨h18, c⟩ := He.ba c
  obtain ⟨h19, c⟩ := He.ba c
  obtain ⟨h20, c⟩ := He.ba c
  obtain ⟨h21, c⟩ := He.ba c
  obtain ⟨h22, c⟩ := He.ba c
  obtain ⟨h23, c⟩ := He.ba c
  obtain ⟨h24, c⟩ := He.ba c
  obtain ⟨h25, c⟩ := He.ba c
  obtain ⟨h26, c⟩ := He.ba c
  obtain ⟨h27, c⟩ := He.ba c
  obtain ⟨h28, c⟩ := He.ba c
  obtain ⟨h29, c⟩ := He.ba c
  obtain ⟨h30, c⟩ := He.ba c
  obtain ⟨h31, c⟩ := He.ba c
  obtain ⟨h32, c⟩ := He.ba c
  obtain ⟨h33, c⟩ := He.ba c
  obtain ⟨h34, c⟩ := He.ba c
  obtain ⟨h35, c⟩ := He.ba c
  obtain ⟨h36, c⟩ := He.ba c
  obtain ⟨h37, c⟩ := He.ba c
  have h38 := c
  exact ⟨bCls_ok h0, bNo_ok h1, bNo_ok h2, bNo_ok h3, bNo_ok h4, bCon_ok h5, bMeth_ok h6, bMeth_ok h7, bMeth_ok h8, bMeth_ok h9, bMeth_ok h10, bMeth_ok h11, bMeth_ok h12, bMeth_ok h13, bMeth_ok h14, bMeth_ok h15, bMeth_ok h16, bMeth_ok h17, bMeth_ok h18, bMeth_ok h19, bMeth_ok h20, bProp_ok h21, bProp_ok h22, bProp_ok h23, bProp_ok h24, bProp_ok h25, bOwn_ok h26, bOwn_ok h27, bOwn_ok h28, bOwn_ok h29, bOwn_ok h30, bOwn_ok h31, h32, h33, of_decide_eq_true h34, of_decide_eq_true h35, bMeth_ok h36, bMeth_ok h37, bMk_ok h38⟩
theorem bYrd_ok {K : PySem.W.Frag} {mg : Str → Option Value} (g_Yard : mg "Yard" = some (.ref (He.ga K "Yard"))) (g_FullYard : mg "FullYard" = some (.ref (He.ga K "FullYard"))) (g_Busy : mg "Busy" = some (.ref (He.ga K "Busy"))) (c : bYrd K = true) : Yrd K mg := by
  obtain ⟨k0, c⟩ := He.ba c
  obtain ⟨k1, c⟩ := He.ba c
  obtain ⟨k2, c⟩ := He.ba c
  obtain ⟨k3, c⟩ := He.ba c
  obtain ⟨h0, c⟩ := He.ba c
  obtain ⟨h1, c⟩ := He.ba c
  obtain ⟨h2, c⟩ := He.ba c
  obtain ⟨h3, c⟩ := He.ba c
  obtain ⟨h4, c⟩ := He.ba c
  have h5 := c
  exact ⟨(fun fu => match fu with | false => bKl_ok k0 | true => bKl_ok k1), (g_Yard), (g_FullYard), (fun fu => match fu with | false => of_decide_eq_true k2 | true => of_decide_eq_true k3), of_decide_eq_true h0, of_decide_eq_true h1, (g_Busy), h2, h3, of_decide_eq_true h4, of_decide_eq_true h5⟩
theorem bExn_ok {K : PySem.W.Frag} {mg : Str → Option Value} (gl : ∀ (i : Nat) (x : Str), xG[i]? = some x → mg x = some (.ref (He.ga K x))) (c : bExn K = true) : Exn K mg := by
  obtain ⟨h0, c⟩ := He.ba c
  obtain ⟨h1, c⟩ := He.ba c
  obtain ⟨h2, c⟩ := He.ba c
  obtain ⟨h3, c⟩ := He.ba c
  obtain ⟨h4, c⟩ := He.ba c
  obtain ⟨h5, c⟩ := He.ba c
  obtain ⟨h6, c⟩ := He.ba c
  obtain ⟨h7, c⟩ := He.ba c
  obtain ⟨h8, c⟩ := He.ba c
  obtain ⟨h9, c⟩ := He.ba c
  obtain ⟨h10, c⟩ := He.ba c
  obtain ⟨h11, c⟩ := He.ba c
  obtain ⟨h12, c⟩ := He.ba c
  obtain ⟨h13, c⟩ := He.ba c
  obtain ⟨h14, c⟩ := He.ba c
  obtain ⟨h15, c⟩ := He.ba c
  obtain ⟨h16, c⟩ := He.ba c
  obtain ⟨h17, c⟩ := He.ba c
  obtain ⟨h18, c⟩ := He.ba c
  obtain ⟨h19, c⟩ := He.ba c
  obtain ⟨h20, c⟩ := He.ba c
  obtain ⟨h21, c⟩ := He.ba c
  obtain ⟨h22, c⟩ := He.ba c
  obtain ⟨h23, c⟩ := He.ba c
  obtain ⟨h24, c⟩ := He.ba c
  obtain ⟨h25, c⟩ := He.ba c
  obtain ⟨h26, c⟩ := He.ba c
  obtain ⟨h27, c⟩ := He.ba c
  obtain ⟨h28, c⟩ := He.ba c
  obtain ⟨h29, c⟩ := He.ba c
  obtain ⟨h30, c⟩ := He.ba c
  obtain ⟨h31, c⟩ := He.ba c
  obtain ⟨h32, c⟩ := He.ba c
  obtain ⟨h33, c⟩ := He.ba c
  obtain ⟨h34, c⟩ := He.ba c
  obtain ⟨h35, c⟩ := He.ba c
  obtain ⟨h36, c⟩ := He.ba c
  obtain ⟨h37, c⟩ := He.ba c
  obtain ⟨h38, c⟩ := He.ba c
  obtain ⟨h39, c⟩ := He.ba c
  obtain ⟨h40, c⟩ := He.ba c
  have h41 := c
  exact ⟨bExcC_ok h0, (gl 0 "BrickError" rfl), of_decide_eq_true h1, (gl 1 "BadBatch" rfl), of_decide_eq_true h2, of_decide_eq_true h3, (gl 2 "BadBox" rfl), of_decide_eq_true h4, of_decide_eq_true h5, (gl 3 "BadKinds" rfl), of_decide_eq_true h6, of_decide_eq_true h7, (gl 4 "BadOrder" rfl), of_decide_eq_true h8, of_decide_eq_true h9, (gl 5 "BadPaper" rfl), of_decide_eq_true h10, of_decide_eq_true h11, (gl 6 "BadSide" rfl), of_decide_eq_true h12, of_decide_eq_true h13, (gl 7 "BadText" rfl), of_decide_eq_true h14, of_decide_eq_true h15, (gl 8 "Busy" rfl), of_decide_eq_true h16, of_decide_eq_true h17, (gl 9 "NoAxis" rfl), of_decide_eq_true h18, of_decide_eq_true h19, (gl 10 "NoKind" rfl), of_decide_eq_true h20, of_decide_eq_true h21, (gl 11 "NoNumber" rfl), of_decide_eq_true h22, of_decide_eq_true h23, (gl 12 "NoSeam" rfl), of_decide_eq_true h24, of_decide_eq_true h25, (gl 13 "NoVersion" rfl), of_decide_eq_true h26, of_decide_eq_true h27, (gl 14 "NotFilled" rfl), of_decide_eq_true h28, of_decide_eq_true h29, (gl 15 "NothingToUndo" rfl), of_decide_eq_true h30, of_decide_eq_true h31, (gl 16 "Rejected" rfl), of_decide_eq_true h32, of_decide_eq_true h33, (gl 17 "TooLarge" rfl), of_decide_eq_true h34, of_decide_eq_true h35, (gl 18 "TooManyEdits" rfl), of_decide_eq_true h36, of_decide_eq_true h37, (gl 19 "UnlikeAxes" rfl), of_decide_eq_true h38, of_decide_eq_true h39, (gl 20 "Unfit" rfl), of_decide_eq_true h40, of_decide_eq_true h41⟩
theorem bShl_ok {K : PySem.W.Frag} {mg : Str → Option Value} (g0 : mg "Shell" = some (.ref (He.ga K "Shell"))) (c : bShl K = true) : Shl K mg := by
  obtain ⟨h0, c⟩ := He.ba c
  obtain ⟨h1, c⟩ := He.ba c
  obtain ⟨h2, c⟩ := He.ba c
  obtain ⟨h3, c⟩ := He.ba c
  obtain ⟨h4, c⟩ := He.ba c
  obtain ⟨h5, c⟩ := He.ba c
  obtain ⟨h6, c⟩ := He.ba c
  have h7 := c
  exact ⟨bCls_ok h0, bNo_ok h1, bNo_ok h2, g0, bMeth_ok h3, bMeth_ok h4, bMeth_ok h5, bMk_ok h6, bCallO_ok h7⟩
theorem bTab_ok {K : PySem.W.Frag} {w : World} {mg : Str → Option Value} (g0 : mg "SIZES" = some (.ref (He.ga K "SIZES"))) (g1 : mg "DEEDS" = some (.ref (He.ga K "DEEDS"))) (g2 : mg "SHAPES" = some (.ref (He.ga K "SHAPES"))) (kS : ∃ es n, KDict K w (He.ga K "SIZES") es n) (kD : ∃ es n, KDict K w (He.ga K "DEEDS") es n) (kH : ∃ es n, KDict K w (He.ga K "SHAPES") es n) (c : bTab K = true) : Tab K w mg := by
  obtain ⟨h0, c⟩ := He.ba c
  obtain ⟨h1, c⟩ := He.ba c
  obtain ⟨h2, c⟩ := He.ba c
  obtain ⟨h3, c⟩ := He.ba c
  obtain ⟨h4, c⟩ := He.ba c
  have h5 := c
  exact ⟨g0, g1, g2, kS, kD, kH, bAt_ok h0, bAt_ok h1, bAt_ok h2, bAt_ok h3, bAt_ok h4, bAt_ok h5⟩
/-! ### what is told -/
structure SaysP (file : Str) (w : World) (h : Heap) (K : PySem.W.Frag) : Prop where
  t : He.SaysT faL fnL tsL w K
  more : bMore K file = true
  pr : prL.map (fun d => fnX K (d.at_ K)) = prL.map PD.val
  hd : ∀ p ∈ tfL, PySem.W.codeHdIn K (He.cT K p).1 (He.cT K p).2 = true
  out : ∀ p ∈ tfL, K.lookup (He.cT K p).2 = none
  empty : ∀ p ∈ tfL, h.get? (He.cT K p).2 = some { cls := .none, data := .fields #[] }
abbrev AlP : Type := He.AlT × Bool × List FnX
def obsK (file : Str) (g : Addr → Option Obj) (K : PySem.W.Frag) : AlP := (He.obsT faL fnL tsL K, (bMore K file && He.tabsB g tfL K, prL.map fun d => fnX K (d.at_ K)))
def obsP (as : List Addr) (file : Str) (g : Addr → Option Obj) : AlP := obsK file g (He.frT g as)
def valP (w : World) : AlP := (He.valT fnL tsL w, (true, prL.map PD.val))
theorem saysP_of {as : List Addr} {file : Str} {w : World} {h : Heap} (e : obsP as file h.get? = valP w) : SaysP file w h (He.frT h.get? as) := by
  have e1 : He.obsT faL fnL tsL (He.frT h.get? as) = He.valT fnL tsL w := congrArg (fun z : AlP => z.1) e
  have e2 : (bMore (He.frT h.get? as) file && He.tabsB h.get? tfL (He.frT h.get? as)) = true := congrArg (fun z : AlP => z.2.1) e
  have e3 : prL.map (fun d => fnX (He.frT h.get? as) (d.at_ (He.frT h.get? as))) = prL.map PD.val := congrArg (fun z : AlP => z.2.2) e
  obtain ⟨m, tb⟩ := He.ba e2
  have each : ∀ p ∈ tfL, PySem.W.codeHdIn (He.frT h.get? as) (He.cT (He.frT h.get? as) p).1 (He.cT (He.frT h.get? as) p).2 = true ∧ ∃ o, h.get? (He.cT (He.frT h.get? as) p).2 = some o ∧ He.emptyTab o = true := fun p hp => by
    obtain ⟨a, b⟩ := He.ba (List.all_eq_true.mp tb p hp)
    refine ⟨a, ?_⟩
    cases q : h.get? (He.cT (He.frT h.get? as) p).2 with
    | none => rw [q] at b; cases b
    | some o => rw [q] at b; exact ⟨o, rfl, b⟩
  refine ⟨e1, m, e3, fun p hp => (each p hp).1, fun p hp => ?_, fun p hp => ?_⟩
  · obtain ⟨_, o, q, z⟩ := each p hp
    exact He.frT_none q z
  · obtain ⟨_, o, q, z⟩ := each p hp
    rw [q, He.emptyTab_eq z]
def hookP (as : List Addr) (file : Str) : PySem.W.Hook where
  α := AlP
  obs := fun s => obsP as file s.heap.get?
  val := fun w => valP w
  says := fun w h => ∃ K : PySem.W.Frag, K.In h ∧ SaysP file w h K
  of := fun _ _ e => ⟨_, He.frT_in, saysP_of e⟩
  keeps := fun _ _ _ ⟨K, hK, c⟩ k => ⟨K, PySem.W.Frag.In.keeps hK k, ⟨c.t, c.more, c.pr, c.hd, c.out, fun p hp => k _ _ (c.empty p hp)⟩⟩
theorem obsP_eq {as : List Addr} {file : Str} {g : Addr → Option Obj} {s : Shared} (h : ∀ a, g a = s.heap.get? a) : obsP as file g = (hookP as file).obs s := by
  have e : g = s.heap.get? := funext h
  rw [e] <;> rfl
section
variable {file : Str} {w : World} {h : Heap} {K : PySem.W.Frag}
theorem SaysP.d (s : SaysP file w h K) : He.SaysD faL fnL K := s.t.d
theorem SaysP.funs (s : SaysP file w h K) : (bFuns K).all id = true := (He.ba s.more).1
theorem SaysP.rest (s : SaysP file w h K) : bYrd K = true ∧ bExn K = true ∧ bShl K = true ∧ bTab K = true ∧ bFI K file = true ∧ (bBMeth K (kC K false) "edit" (He.ma K (He.ga K "Yard") "edit") = true ∧ bBMeth K (kC K true) "edit" (He.ma K (He.ga K "Yard") "edit") = true) ∧ PySem.W.kitOne K (.type "NoneType") (.ref (He.ga K "Yard")) = some false := by
  obtain ⟨_, c⟩ := He.ba s.more
  obtain ⟨h1, c⟩ := He.ba c
  obtain ⟨h2, c⟩ := He.ba c
  obtain ⟨h3, c⟩ := He.ba c
  obtain ⟨h4, c⟩ := He.ba c
  obtain ⟨h5, c⟩ := He.ba c
  obtain ⟨h6, h7⟩ := He.ba c
  exact ⟨h1, h2, h3, h4, h5, He.ba h6, of_decide_eq_true h7⟩
theorem SaysP.prs (s : SaysP file w h K) (i : Nat) {d : PD} (e : prL[i]? = some d) : fnX K (d.at_ K) = d.val := by
  have e2 : (prL.map fun d => fnX K (d.at_ K))[i]? = (prL.map PD.val)[i]? := by rw [s.pr]
  rw [List.getElem?_map, List.getElem?_map, e] at e2
  exact Option.some.inj e2
end
theorem txt_of {file : Str} {w : World} {h : Heap} {K : PySem.W.Frag} {mg : Str → Option Value} (X : K.In h) (G : h.Ns mainGlobals mg) (s : SaysP file w h K) : Txt K mg :=
  ⟨(He.free_ok X G (s.d.fact 0 (f := .free "len") rfl)),
  (He.free_ok X G (s.d.fact 1 (f := .free "isinstance") rfl)),
  (He.free_ok X G (s.d.fact 2 (f := .free "int") rfl)),
  (He.free_ok X G (s.d.fact 3 (f := .free "bool") rfl)),
  (He.free_ok X G (s.d.fact 4 (f := .free "str") rfl)),
  (He.free_ok X G (s.d.fact 5 (f := .free "tuple") rfl)),
  (He.free_ok X G (s.d.fact 6 (f := .free "list") rfl)),
  (He.free_ok X G (s.d.fact 7 (f := .free "enumerate") rfl)),
  (He.free_ok X G (s.d.fact 8 (f := .free "range") rfl)),
  (He.free_ok X G (s.d.fact 9 (f := .free "zip") rfl)),
  (He.free_ok X G (s.d.fact 10 (f := .free "all") rfl)),
  (He.free_ok X G (s.d.fact 11 (f := .free "abs") rfl)),
  (He.free_ok X G (s.d.fact 12 (f := .free "repr") rfl)),
  (He.free_ok X G (s.d.fact 13 (f := .free "sorted") rfl)),
  (He.free_ok X G (s.d.fact 14 (f := .free "set") rfl)),
  (He.free_ok X G (s.d.fact 15 (f := .free "super") rfl)),
  (He.free_ok X G (s.d.fact 16 (f := .free "min") rfl)),
  (He.free_ok X G (s.d.fact 17 (f := .free "KeyError") rfl)),
  (He.int_ok X G (s.d.fact 18 (f := .int "MAX_DIMS" 4) rfl)),
  (He.int_ok X G (s.d.fact 19 (f := .int "MAX_SIDE" 1000000000000) rfl)),
  (He.int_ok X G (s.d.fact 20 (f := .int "MAX_KINDS" 4) rfl)),
  (He.int_ok X G (s.d.fact 21 (f := .int "HISTORY" 30) rfl)),
  (He.int_ok X G (s.d.fact 22 (f := .int "BATCH" 20) rfl)),
  (He.str_ok X G (s.d.fact 23 (f := .str "CUT" "cut") rfl)),
  (He.str_ok X G (s.d.fact 24 (f := .str "SIDES" "sides") rfl)),
  (He.str_ok X G (s.d.fact 25 (f := .str "STEP" "step") rfl)),
  (He.str_ok X G (s.d.fact 26 (f := .str "GAP" "gap") rfl)),
  (He.str_ok X G (s.d.fact 27 (f := .str "FILLED" "filled") rfl)),
  (He.str_ok X G (s.d.fact 28 (f := .str "BARRED" "barred") rfl)),
  (He.str_ok X G (s.d.fact 29 (f := .str "SAME" "same") rfl)),
  (He.str_ok X G (s.d.fact 30 (f := .str "WHAT" "what") rfl)),
  (He.glo_ok X G (s.d.fact 31 (f := .glo "name_of") rfl)),
  (fdF (s.d.def_ 0 (d := fn0) rfl)),
  (He.glo_ok X G (s.d.fact 32 (f := .glo "first_name") rfl)),
  (fdF (s.d.def_ 1 (d := fn1) rfl)),
  (He.glo_ok X G (s.d.fact 33 (f := .glo "is_integer") rfl)),
  (fdF (s.d.def_ 2 (d := fn2) rfl)),
  (He.glo_ok X G (s.d.fact 34 (f := .glo "sides_error") rfl)),
  (fdF (s.d.def_ 3 (d := fn3) rfl)),
  (He.glo_ok X G (s.d.fact 35 (f := .glo "kinds_error") rfl)),
  (fdF (s.d.def_ 4 (d := fn4) rfl)),
  (He.glo_ok X G (s.d.fact 36 (f := .glo "pair_error") rfl)),
  (fdF (s.d.def_ 5 (d := fn5) rfl)),
  (He.glo_ok X G (s.d.fact 37 (f := .glo "box_error") rfl)),
  (fdF (s.d.def_ 6 (d := fn6) rfl)),
  (He.glo_ok X G (s.d.fact 38 (f := .glo "common") rfl)),
  (fdF (s.d.def_ 7 (d := fn7) rfl)),
  (He.glo_ok X G (s.d.fact 39 (f := .glo "inverse") rfl)),
  (fdF (s.d.def_ 8 (d := fn8) rfl)),
  (He.glo_ok X G (s.d.fact 40 (f := .glo "least_times") rfl)),
  (fdF (s.d.def_ 9 (d := fn9) rfl)),
  (He.glo_ok X G (s.d.fact 41 (f := .glo "rests_papers") rfl)),
  (fdF (s.d.def_ 10 (d := fn10) rfl)),
  (He.glo_ok X G (s.d.fact 42 (f := .glo "bar_along") rfl)),
  (fdF (s.d.def_ 11 (d := fn11) rfl)),
  (He.glo_ok X G (s.d.fact 43 (f := .glo "crossing") rfl)),
  (fdF (s.d.def_ 12 (d := fn12) rfl)),
  (He.glo_ok X G (s.d.fact 44 (f := .glo "paper_papers") rfl)),
  (fdF (s.d.def_ 13 (d := fn13) rfl)),
  (He.glo_ok X G (s.d.fact 45 (f := .glo "is_filled") rfl)),
  (fdF (s.d.def_ 14 (d := fn14) rfl)),
  (He.glo_ok X G (s.d.fact 46 (f := .glo "sides_text") rfl)),
  (fdF (s.d.def_ 15 (d := fn15) rfl)),
  (He.glo_ok X G (s.d.fact 47 (f := .glo "kinds_text") rfl)),
  (fdF (s.d.def_ 16 (d := fn16) rfl)),
  (He.glo_ok X G (s.d.fact 48 (f := .glo "swapped") rfl)),
  (fdF (s.d.def_ 17 (d := fn17) rfl)),
  (He.glo_ok X G (s.d.fact 49 (f := .glo "is_order") rfl)),
  (fdF (s.d.def_ 18 (d := fn18) rfl)),
  (He.glo_ok X G (s.d.fact 50 (f := .glo "turned") rfl)),
  (fdF (s.d.def_ 19 (d := fn19) rfl)),
  (He.glo_ok X G (s.d.fact 51 (f := .glo "is_edit") rfl)),
  (fdF (s.d.def_ 20 (d := fn20) rfl)),
  (He.glo_ok X G (s.d.fact 52 (f := .glo "fits") rfl)),
  (fdF (s.d.def_ 21 (d := fn21) rfl)),
  (He.glo_ok X G (s.d.fact 53 (f := .glo "_law_deck") rfl)),
  (fdF (s.d.def_ 22 (d := fn22) rfl)),
  (He.glo_ok X G (s.d.fact 54 (f := .glo "_law_draw") rfl)),
  (fdF (s.d.def_ 23 (d := fn23) rfl)),
  (He.glo_ok X G (s.d.fact 55 (f := .glo "_law_one") rfl)),
  (fdF (s.d.def_ 24 (d := fn24) rfl)),
  (He.glo_ok X G (s.d.fact 56 (f := .glo "_law_mixed") rfl)),
  (fdF (s.d.def_ 25 (d := fn25) rfl)),
  (He.glo_ok X G (s.d.fact 57 (f := .glo "_law_divisor") rfl)),
  (fdF (s.d.def_ 26 (d := fn26) rfl)),
  (He.glo_ok X G (s.d.fact 58 (f := .glo "_law_whole") rfl)),
  (fdF (s.d.def_ 27 (d := fn27) rfl)),
  (He.glo_ok X G (s.d.fact 59 (f := .glo "_law_sides") rfl)),
  (fdF (s.d.def_ 28 (d := fn28) rfl)),
  (He.glo_ok X G (s.d.fact 60 (f := .glo "_law_pair") rfl)),
  (fdF (s.d.def_ 29 (d := fn29) rfl)),
  (He.glo_ok X G (s.d.fact 61 (f := .glo "_law_lcm") rfl)),
  (fdF (s.d.def_ 30 (d := fn30) rfl)),
  (He.glo_ok X G (s.d.fact 62 (f := .glo "_law_cut_box") rfl)),
  (fdF (s.d.def_ 31 (d := fn31) rfl)),
  (He.glo_ok X G (s.d.fact 63 (f := .glo "_law_plain_box") rfl)),
  (fdF (s.d.def_ 32 (d := fn32) rfl)),
  (He.glo_ok X G (s.d.fact 64 (f := .glo "_law_is_sum") rfl)),
  (fdF (s.d.def_ 33 (d := fn33) rfl)),
  (He.glo_ok X G (s.d.fact 65 (f := .glo "_law_rests") rfl)),
  (fdF (s.d.def_ 34 (d := fn34) rfl)),
  (He.glo_ok X G (s.d.fact 66 (f := .glo "_law_is_filled") rfl)),
  (fdF (s.d.def_ 35 (d := fn35) rfl)),
  (He.glo_ok X G (s.d.fact 67 (f := .glo "_law_with") rfl)),
  (fdF (s.d.def_ 36 (d := fn36) rfl)),
  (He.glo_ok X G (s.d.fact 68 (f := .glo "_law_is_part") rfl)),
  (fdF (s.d.def_ 37 (d := fn37) rfl)),
  (He.glo_ok X G (s.d.fact 69 (f := .glo "_law_is_cut") rfl)),
  (fdF (s.d.def_ 38 (d := fn38) rfl)),
  (He.glo_ok X G (s.d.fact 70 (f := .glo "_law_paper_holds") rfl)),
  (fdF (s.d.def_ 39 (d := fn39) rfl)),
  (He.glo_ok X G (s.d.fact 71 (f := .glo "_law_page_after") rfl)),
  (fdF (s.d.def_ 40 (d := fn40) rfl)),
  (He.glo_ok X G (s.d.fact 72 (f := .glo "_law_turned_page") rfl)),
  (fdF (s.d.def_ 41 (d := fn41) rfl)),
  (He.glo_ok X G (s.d.fact 73 (f := .glo "_law_do") rfl)),
  (fdF (s.d.def_ 42 (d := fn42) rfl)),
  (He.glo_ok X G (s.d.fact 74 (f := .glo "_law_done") rfl)),
  (fdF (s.d.def_ 43 (d := fn43) rfl)),
  (He.glo_ok X G (s.d.fact 75 (f := .glo "_law_shows") rfl)),
  (fdF (s.d.def_ 44 (d := fn44) rfl)),
  (He.glo_ok X G (s.d.fact 76 (f := .glo "_law_sides_text") rfl)),
  (fdF (s.d.def_ 45 (d := fn45) rfl)),
  (He.glo_ok X G (s.d.fact 77 (f := .glo "_law_kinds_text") rfl)),
  (fdF (s.d.def_ 46 (d := fn46) rfl)),
  (He.glo_ok X G (s.d.fact 78 (f := .glo "_law_says") rfl)),
  (fdF (s.d.def_ 47 (d := fn47) rfl)),
  (He.glo_ok X G (s.d.fact 79 (f := .glo "_law_is_full") rfl)),
  (fdF (s.d.def_ 48 (d := fn48) rfl)),
  (He.glo_ok X G (s.d.fact 80 (f := .glo "_law_due_shows") rfl)),
  (fdF (s.d.def_ 49 (d := fn49) rfl)),
  (He.glo_ok X G (s.d.fact 81 (f := .glo "_law_start") rfl)),
  (fdF (s.d.def_ 50 (d := fn50) rfl)),
  (He.glo_ok X G (s.d.fact 82 (f := .glo "_law_is_busy") rfl)),
  (fdF (s.d.def_ 51 (d := fn51) rfl)),
  (He.glo_ok X G (s.d.fact 83 (f := .glo "_law_copy_right") rfl)),
  (fdF (s.d.def_ 52 (d := fn52) rfl)),
  (He.glo_ok X G (s.d.fact 84 (f := .glo "_law_step") rfl)),
  (fdF (s.d.def_ 53 (d := fn53) rfl)),
  (He.glo_ok X G (s.d.fact 85 (f := .glo "_law_tried") rfl)),
  (fdF (s.d.def_ 54 (d := fn54) rfl)),
  (He.glo_ok X G (s.d.fact 86 (f := .glo "law") rfl)),
  (fdF (s.d.def_ 55 (d := fn55) rfl)),
  (fdF (s.d.def_ 56 (d := fn56) rfl)),
  (fdF (s.d.def_ 57 (d := fn57) rfl)),
  (prF (K := K) (d := pr0) (s.prs 0 rfl) (He.bx (bs := bFuns K) s.funs 0 rfl)),
  (prF (K := K) (d := pr1) (s.prs 1 rfl) (He.bx (bs := bFuns K) s.funs 1 rfl)),
  (prF (K := K) (d := pr2) (s.prs 2 rfl) (He.bx (bs := bFuns K) s.funs 2 rfl)),
  (prF (K := K) (d := pr3) (s.prs 3 rfl) (He.bx (bs := bFuns K) s.funs 3 rfl)),
  (prF (K := K) (d := pr4) (s.prs 4 rfl) (He.bx (bs := bFuns K) s.funs 4 rfl)),
  (fdF (s.d.def_ 58 (d := fn58) rfl)),
  (fdF (s.d.def_ 59 (d := fn59) rfl)),
  (fdF (s.d.def_ 60 (d := fn60) rfl)),
  (fdF (s.d.def_ 61 (d := fn61) rfl)),
  (fdF (s.d.def_ 62 (d := fn62) rfl)),
  (fdF (s.d.def_ 63 (d := fn63) rfl)),
  (fdF (s.d.def_ 64 (d := fn64) rfl)),
  (fdF (s.d.def_ 65 (d := fn65) rfl)),
  (fdF (s.d.def_ 66 (d := fn66) rfl)),
  (fdF (s.d.def_ 67 (d := fn67) rfl)),
  (fdF (s.d.def_ 68 (d := fn68) rfl)),
  (fdF (s.d.def_ 69 (d := fn69) rfl)),
  (fdF (s.d.def_ 70 (d := fn70) rfl)),
  (fdF (s.d.def_ 71 (d := fn71) rfl)),
  (fdF (s.d.def_ 72 (d := fn72) rfl)),
  (fdF (s.d.def_ 73 (d := fn73) rfl)),
  (fdF (s.d.def_ 74 (d := fn74) rfl)),
  (fdF (s.d.def_ 75 (d := fn75) rfl)),
  (fdF (s.d.def_ 76 (d := fn76) rfl)),
  (fdF (s.d.def_ 77 (d := fn77) rfl)),
  (fdF (s.d.def_ 78 (d := fn78) rfl)),
  (fdF (s.d.def_ 79 (d := fn79) rfl)),
  (fdF (s.d.def_ 80 (d := fn80) rfl)),
  (fdF (s.d.def_ 81 (d := fn81) rfl)),
  (fdF (s.d.def_ 82 (d := fn82) rfl)),
  (fdF (s.d.def_ 83 (d := fn83) rfl)),
  (fdF (s.d.def_ 84 (d := fn84) rfl)),
  (fdF (s.d.def_ 85 (d := fn85) rfl)),
  (fdF (s.d.def_ 86 (d := fn86) rfl))⟩
theorem exn_gl {file : Str} {w : World} {h : Heap} {K : PySem.W.Frag} {mg : Str → Option Value} (X : K.In h) (G : h.Ns mainGlobals mg) (s : SaysP file w h K) : ∀ (i : Nat) (x : Str), xG[i]? = some x → mg x = some (.ref (He.ga K x))
  | 0, _, e => by cases e; exact (He.glo_ok X G (s.d.fact 90 (f := .glo "BrickError") rfl))
  | 1, _, e => by cases e; exact (He.glo_ok X G (s.d.fact 91 (f := .glo "BadBatch") rfl))
  | 2, _, e => by cases e; exact (He.glo_ok X G (s.d.fact 92 (f := .glo "BadBox") rfl))
  | 3, _, e => by cases e; exact (He.glo_ok X G (s.d.fact 93 (f := .glo "BadKinds") rfl))
  | 4, _, e => by cases e; exact (He.glo_ok X G (s.d.fact 94 (f := .glo "BadOrder") rfl))
  | 5, _, e => by cases e; exact (He.glo_ok X G (s.d.fact 95 (f := .glo "BadPaper") rfl))
  | 6, _, e => by cases e; exact (He.glo_ok X G (s.d.fact 96 (f := .glo "BadSide") rfl))
  | 7, _, e => by cases e; exact (He.glo_ok X G (s.d.fact 97 (f := .glo "BadText") rfl))
  | 8, _, e => by cases e; exact (He.glo_ok X G (s.d.fact 89 (f := .glo "Busy") rfl))
  | 9, _, e => by cases e; exact (He.glo_ok X G (s.d.fact 98 (f := .glo "NoAxis") rfl))
  | 10, _, e => by cases e; exact (He.glo_ok X G (s.d.fact 99 (f := .glo "NoKind") rfl))
  | 11, _, e => by cases e; exact (He.glo_ok X G (s.d.fact 100 (f := .glo "NoNumber") rfl))
  | 12, _, e => by cases e; exact (He.glo_ok X G (s.d.fact 101 (f := .glo "NoSeam") rfl))
  | 13, _, e => by cases e; exact (He.glo_ok X G (s.d.fact 102 (f := .glo "NoVersion") rfl))
  | 14, _, e => by cases e; exact (He.glo_ok X G (s.d.fact 103 (f := .glo "NotFilled") rfl))
  | 15, _, e => by cases e; exact (He.glo_ok X G (s.d.fact 104 (f := .glo "NothingToUndo") rfl))
  | 16, _, e => by cases e; exact (He.glo_ok X G (s.d.fact 105 (f := .glo "Rejected") rfl))
  | 17, _, e => by cases e; exact (He.glo_ok X G (s.d.fact 106 (f := .glo "TooLarge") rfl))
  | 18, _, e => by cases e; exact (He.glo_ok X G (s.d.fact 107 (f := .glo "TooManyEdits") rfl))
  | 19, _, e => by cases e; exact (He.glo_ok X G (s.d.fact 108 (f := .glo "UnlikeAxes") rfl))
  | 20, _, e => by cases e; exact (He.glo_ok X G (s.d.fact 109 (f := .glo "Unfit") rfl))
  | i + 21, _, e => by simp [xG] at e
section
variable {file : Str} {w : World} {h : Heap} {K : PySem.W.Frag} {mg : Str → Option Value}
theorem yrd_of (X : K.In h) (G : h.Ns mainGlobals mg) (s : SaysP file w h K) : Yrd K mg := bYrd_ok (He.glo_ok X G (s.d.fact 87 (f := .glo "Yard") rfl)) (He.glo_ok X G (s.d.fact 88 (f := .glo "FullYard") rfl)) (He.glo_ok X G (s.d.fact 89 (f := .glo "Busy") rfl)) s.rest.1
theorem exn_of (X : K.In h) (G : h.Ns mainGlobals mg) (s : SaysP file w h K) : Exn K mg := bExn_ok (exn_gl X G s) s.rest.2.1
theorem shl_of (X : K.In h) (G : h.Ns mainGlobals mg) (s : SaysP file w h K) : Shl K mg := bShl_ok (He.glo_ok X G (s.d.fact 110 (f := .glo "Shell") rfl)) s.rest.2.2.1
theorem tab_of (X : K.In h) (G : h.Ns mainGlobals mg) (s : SaysP file w h K) : Tab K w mg := bTab_ok (He.glo_ok X G (s.d.fact 111 (f := .glo "SIZES") rfl)) (He.glo_ok X G (s.d.fact 112 (f := .glo "DEEDS") rfl)) (He.glo_ok X G (s.d.fact 113 (f := .glo "SHAPES") rfl)) (s.t.tab 0 (t := ((fun K => He.ga K "SIZES"), _)) rfl) (s.t.tab 1 (t := ((fun K => He.ga K "DEEDS"), _)) rfl) (s.t.tab 2 (t := ((fun K => He.ga K "SHAPES"), _)) rfl) s.rest.2.2.2.1
theorem bm_of (s : SaysP file w h K) (fu : Bool) : BMeth K (kC K fu) "edit" (He.ma K (He.ga K "Yard") "edit") := match fu with
  | false => bBMeth_ok s.rest.2.2.2.2.2.1.1
  | true => bBMeth_ok s.rest.2.2.2.2.2.1.2
theorem fini_of {P : Program} (s : SaysP file w h K) (hf : (P.main.file : Str) = file) (top : (P.main.scope.names.lookup ("super" : Str)).isSome = false) (sup : mg "super" = none) : FIni P K mg := by
  obtain ⟨c0, c⟩ := He.ba s.rest.2.2.2.2.1
  obtain ⟨c1, c⟩ := He.ba c
  obtain ⟨c2, c⟩ := He.ba c
  obtain ⟨c3, c⟩ := He.ba c
  obtain ⟨c4, c⟩ := He.ba c
  obtain ⟨c5, c6⟩ := He.ba c
  refine ⟨?_, top, sup, c1, of_decide_eq_true c2, He.eqO_ok c3, He.eqO_ok c4, of_decide_eq_true c5, c6⟩
  have e := s.prs 5 (d := prI) rfl
  have e : fnX K (fiA K) = prI.val := e
  unfold fnX at e
  cases q : K.lookup (fiA K) with
  | none =>
    rw [q] at e
    cases e
  | some o =>
    obtain ⟨oc, od, dt, sl⟩ := o
    rw [q] at e c0
    cases dt with
    | func fd =>
      obtain ⟨n1, n2, n3, n4, n5, n6, n7, n8, n9, n10, n11, n12, n13, n14, n15⟩ := fd
      have e2 : (some (n1, n2, n3, n4, n5, n6, n7.map (·.1), n15) : FnX) = (some (("__init__" : Str), ("FullYard.__init__" : Str), defArgs s_F_init, FuncBody.stmts (defBody s_F_init), defScope s_F_init, mainGlobals, [("__class__" : Str)], builtinsNs) : FnX) := e
      simp only [Option.some.injEq, Prod.mk.injEq] at e2
      obtain ⟨h1, h2, h3, h4, h5, h6, h7, h8⟩ := e2
      subst h1 h2 h3 h4 h5 h6 h8
      match n7, h7, n13, n8, c0 with
      | [(nm, cc)], h7, .ref cda, .none, c0 =>
        have hnm : nm = "__class__" := by simpa using h7
        subst hnm
        obtain ⟨k1, c0⟩ := He.ba c0
        obtain ⟨k2, k3⟩ := He.ba c0
        cases qc : K.lookup cc with
        | none => rw [qc] at k2; cases k2
        | some oc2 =>
          obtain ⟨x1, x2, x3, x4⟩ := oc2
          rw [qc] at k2
          cases x3 with
          | cell v =>
            cases v with
            | none => cases k2
            | some v =>
              have ev : v = .ref (He.ga K "FullYard") := of_decide_eq_true k2
              subst ev
              cases qd : K.lookup cda with
              | none => rw [qd] at k3; cases k3
              | some od2 =>
                obtain ⟨y1, y2, y3, y4⟩ := od2
                rw [qd] at k3
                cases y3 with
                | fields vs =>
                  have k4 : (match vs[2]? with | some (Value.str fl _) => file == fl | _ => false) = true := k3
                  split at k4
                  · rename_i fl tk ef
                    exact ⟨oc, x1, y1, n9, n10, n11, n14, od, n12, x2, y2, sl, x4, y4, cda, cc, vs, fl, tk, rfl, k1, qc, qd, ef, by rw [hf]; exact k4⟩
                  · cases k4
                | _ => cases k3
          | _ => cases k2
    | _ => cases e
end
end TB
/-! the end of the law
The steps follow those of the library: HandS.EndTab, with the guards told. -/
namespace TB
open PySem PySem.Spec PyProof.Rows L2 LamX
abbrev tab0 : Obj := { cls := .none, data := .fields #[] }
abbrev lstO (us : List Value) : Obj := { cls := .type "list", data := .seq us.toArray }
theorem isCode_ne {h : Heap} {c PT : Addr} (C : PySem.W.CodeHd h c PT) : ∃ o, h.get? c = some o ∧ o ≠ tab0 ∧ ∀ us, o ≠ lstO us := by
  obtain ⟨o, us, file, tf, fl, tg, inF, tx, tt, e, e1, e2, e3, _⟩ := C
  refine ⟨o, e, fun z => ?_, fun vs z => ?_⟩
  · rw [z] at e1; cases e1
  · rw [z] at e2; cases e2
section
variable {P : Program} {w : World} {K : PySem.W.Frag} {mg mb : Str → Option Value} {k : Nat} {fa a c PT : Addr} {fd : FuncData} {x : Str} {sp : Sp} {s1 : Shared} {us : List Value} {ns : List Int} {H : Hp}
/-- what may be tracked when the law is called: the table and the script -/
structure Few (K : PySem.W.Frag) (H : Hp) (a PT : Addr) (us : List Value) (ns : List Int) : Prop where
  tb : H PT = some (.tbl #[])
  on : ∀ b u, H b = some u → (b = PT ∧ u = .tbl #[]) ∨ (b = a ∧ u = .frz (lstO us) (.lst (ns.map V.int)) ∧ K.lookup a = none)
  sc : SqL K H a (ns.map V.int)
theorem few_of (KX : K.In s1.heap) (hT : s1.heap.get? PT = some tab0) (ha : s1.heap.get? a = some (lstO us)) (hi : IntsAre us ns) (hl : ns.length ≤ sizeLine) : ∃ H, Few K H a PT us ns := by
  have ne : PT ≠ a := fun e => by
    rw [e, ha] at hT
    cases hT
  cases q : K.lookup a with
  | none =>
    have hPT : (fun b => if b = PT then some (HO.tbl #[]) else if b = a then some (.frz (lstO us) (.lst (ns.map V.int))) else none : Hp) PT = some (.tbl #[]) := if_pos rfl
    have hA : (fun b => if b = PT then some (HO.tbl #[]) else if b = a then some (.frz (lstO us) (.lst (ns.map V.int))) else none : Hp) a = some (.frz (lstO us) (.lst (ns.map V.int))) := (if_neg (Ne.symm ne)).trans (if_pos rfl)
    refine ⟨(fun b => if b = PT then some (HO.tbl #[]) else if b = a then some (.frz (lstO us) (.lst (ns.map V.int))) else none : Hp), hPT, fun b u e => ?_, .inl (.inr ⟨_, hA⟩)⟩
    by_cases h1 : b = PT
    · rw [h1] at e
      exact .inl ⟨h1, (Option.some.inj (hPT.symm.trans e)).symm⟩
    · by_cases h2 : b = a
      · rw [h2] at e
        exact .inr ⟨h2, (Option.some.inj (hA.symm.trans e)).symm, q⟩
      · have e' := ((if_neg h1).trans (if_neg h2)).symm.trans e
        cases e'
  | some o =>
    have eo := KX a o q
    rw [ha] at eo
    cases eo
    refine ⟨fun b => if b = PT then some (.tbl #[]) else none, if_pos rfl, fun b u e => ?_, .inr ⟨_, us.toArray, _, q, rfl, rfl, rfl, by rw [List.size_toArray, hi.length]; exact hl, by simpa using vals_ints hi⟩⟩
    by_cases h1 : b = PT
    · have e' := (if_pos h1).symm.trans e
      exact .inl ⟨h1, (Option.some.inj e').symm⟩
    · have e' := (if_neg h1).symm.trans e
      cases e'
theorem callG (KX : K.In s1.heap) (hns : s1.heap.Ns mainGlobals mg) (hb : s1.heap.Ns builtinsNs mb) (hbb : ∀ x : Str, x ≠ "__name__" → mb x = bootBuiltins x) (hlim : s1.heap.NoLimit) (hg : s1.gens = #[]) (hT : s1.heap.get? PT = some tab0) (nT : K.lookup PT = none) (C : PySem.W.CodeHd s1.heap c PT)
    (hbm : ∃ (bm : Addr) (ob : Obj), mg "__builtins__" = some (.ref bm) ∧ bm ≠ builtinsNs ∧ s1.heap.get? bm = some ob ∧ ob.cls = .type "module" ∧ ob.dict = some builtinsNs ∧ ob.data = .plain) (ha : s1.heap.get? a = some (lstO us)) (hi : IntsAre us ns) (hl : ns.length ≤ sizeLine) (hr : Room k callerA)
    (F : ∀ base : Heap, TabB base mg c PT → GOk P w K mg base (L2.CX P w) k fa fd [x] sp) (hbd : ∀ (s : Shared) (u : Value), BindsTo s fd ⟨[u], []⟩ [(x, u)])
    (hsp : ∀ H : Hp, H PT = some (.tbl #[]) → SqL K H a (ns.map V.int) → sp [.ref a] H (fun v _ => v = .bl true) fun _ _ _ => False) :
    codeAny (model P w) callerA (.call (.ref fa) ⟨[.ref a], []⟩) (fun r s' => r = .ok (.ret (.bool true)) ∧ OldK s1.heap s'.heap ∧ s'.os = s1.os ∧ AllBare s'.gens) s1 := by
  obtain ⟨H, W⟩ := few_of KX hT ha hi hl
  have hok : HOk P w H s1.heap := fun b u e => by
    rcases W.on b u e with ⟨rfl, rfl⟩ | ⟨rfl, rfl, _⟩
    · exact hT
    · exact ⟨ha, by rw [List.length_map]; exact hl, us, _, vals_ints hi, ha⟩
  -- whatever is neither the table nor the script stands in the base
  have un : ∀ {b : Addr} {o : Obj}, s1.heap.get? b = some o → o ≠ tab0 → o ≠ lstO us → H b = none := fun {b o} e n1 n2 => by
    cases q : H b with
    | none => rfl
    | some u =>
      rcases W.on b u q with ⟨z, _⟩ | ⟨z, _, _⟩
      · rw [z, hT] at e; exact absurd (Option.some.inj e).symm n1
      · rw [z, ha] at e; exact absurd (Option.some.inj e).symm n2
  have low : ∀ {b : Addr} {o : Obj}, s1.heap.get? b = some o → o ≠ tab0 → o ≠ lstO us → (hidT s1.heap H).get? b = some o := fun e n1 n2 => hidT_get e (un e n1 n2)
  have dic : ∀ {b : Addr} {m : Str → Option Value}, s1.heap.Ns b m → (hidT s1.heap H).Ns b m := fun {b m} ⟨o, es, ep, e, d, r⟩ => by
    refine ⟨o, es, ep, low e (fun z => ?_) (fun z => ?_), d, r⟩
    · rw [z] at d; cases d
    · rw [z] at d; cases d
  have inB : K.In (hidT s1.heap H) := fun b o e => hidT_get (KX b o e) (by
    cases q : H b with
    | none => rfl
    | some u =>
      rcases W.on b u q with ⟨z, _⟩ | ⟨z, _, n⟩
      · rw [z, nT] at e; cases e
      · rw [z, n] at e; cases e)
  have tb : TabB (hidT s1.heap H) mg c PT := by
    refine ⟨?_, ?_, fun z => ?_⟩
    · obtain ⟨o0, e0, m1, m2⟩ := isCode_ne C
      obtain ⟨o, vs, file, tf, fl, tg, inF, tx, tt, e, r⟩ := C
      rw [e0] at e
      cases e
      exact ⟨_, vs, file, tf, fl, tg, inF, tx, tt, low e0 m1 (m2 us), r⟩
    · obtain ⟨bm, ob, b1, b2, b3, b4, b5, b6⟩ := hbm
      refine ⟨bm, ob, b1, b2, fun q => ?_, fun q => ?_, low b3 (fun z => ?_) (fun z => ?_), b4, b5, b6⟩
      · obtain ⟨o, es, ep, e, d, _⟩ := hns
        rw [q, e] at b3
        cases b3
        rw [d] at b6
        cases b6
      · rw [q, hT] at b3
        cases b3
        cases b6
      · rw [z] at b6; cases b6
      · rw [z] at b6; cases b6
    · obtain ⟨o, es, ep, e, d, _⟩ := hns
      rw [z, hT] at e
      cases e
      cases d
  have lim : (hidT s1.heap H).NoLimit := let ⟨mc, h1, h2⟩ := hlim; ⟨mc, dic h1, h2⟩
  have e0 : Env0 P w K mg (hidT s1.heap H) callerA [] s1 H := ⟨rfl, ⟨inB, dic hns, ⟨mb, dic hb, hbb⟩, lim⟩, fun b o e => of_hidT e, Nat.le_of_eq (hidT_size _ _), trivial, (fun b hb => nomatch hb), hok, .of_eq hg⟩
  refine codeAny_mono ((F _ tb).go callerA [] s1 H ⟨[.ref a], []⟩ [.ref a] [.ref a] _ _ hr rfl e0 (hbd s1 (.ref a)) (.cons rfl .nil) (hsp H W.tb W.sc)) fun r s' q => ?_
  match r, q with
  | .error e, ⟨_, _, _, _, _, _, _, _, _, _, _, _, z⟩ => exact z.elim
  | .ok .next, q => exact q.elim
  | .ok .brk, q => exact q.elim
  | .ok .cont, q => exact q.elim
  | .ok (.ret u), ⟨v, H', os, bare, U, hok', rv, e⟩ =>
    have e : v = .bl true := e
    subst e
    obtain rfl : u = Value.bool true := rv
    obtain ⟨more, tk⟩ := U.tbls PT #[] W.tb
    have tk : s'.heap.get? PT = some { cls := .none, data := .fields (#[] ++ more) } := hok' PT _ tk
    have stay : ∀ b o, b ≠ PT → s1.heap.get? b = some o → s'.heap.get? b = some o := fun b o n e => by
      cases q : H b with
      | none => exact U.keep b o e q (fun z => nomatch (show b ∈ ([] : List Addr) from z)) (fun z => nomatch z)
      | some u =>
        rcases W.on b u q with ⟨z, _⟩ | ⟨z, zu, _⟩
        · exact absurd z n
        · rw [zu] at q
          have e1 := (hok b _ q).1
          rw [e] at e1
          cases e1
          exact (hok' b _ (U.frzs b _ _ q)).1
    refine ⟨rfl, ⟨fun b o e => ?_, fun b o e => ?_⟩, os, bare⟩
    · by_cases n : b = PT
      · rw [n] at e ⊢
        rw [hT] at e
        cases e
        exact .inr (.inl ⟨(C.tab hT).isCodeTable, rfl, #[], _, rfl, tk⟩)
      · exact .inl (stay b o n e)
    · by_cases n : b = PT
      · rw [n]; exact ⟨_, tk⟩
      · exact ⟨o, stay b o n e⟩
end
end TB
/-! the head and the walk joined -/
namespace TB
open PySem PySem.Spec PyProof.Rows L2 LamX
def obL (s : PySem.W.SharedT) : AlP := obsP asL fileL (HandSHeadRun.getT s)
theorem obL_eq (s : PySem.W.SharedT) : obL s = (hookP asL fileL).obs s.abs := obsP_eq (HandSHeadRun.getT_eq s)
theorem four {α β γ : Type} {o : Option α} {f1 : α → Bool} {f2 : α → β} {v2 : β} {f3 : α → Bool × List FnX} {f4 : α → Bool × List He.FnW × List (Option (List (Option (Str × Int))))} {p : List FnX} {q : List He.FnW × List (Option (List (Option (Str × Int))))}
    (h1 : o.map f1 = some true) (h2 : o.map f2 = some v2) (h3 : o.map f3 = some (true, p)) (h4 : o.map f4 = some (true, q)) : ∃ s, o = some s ∧ f1 s = true ∧ f2 s = v2 ∧ f3 s = (true, p) ∧ f4 s = (true, q) := by
  cases o with
  | none => cases h1
  | some s => exact ⟨s, rfl, Option.some.inj h1, Option.some.inj h2, Option.some.inj h3, Option.some.inj h4⟩
theorem obs_is {w : World} {g : Addr → Option Obj} (h3 : ((faL.all fun f => f.ok (He.frT g asL)) && (bMore (He.frT g asL) fileL && He.tabsB g tfL (He.frT g asL)), prL.map fun d => fnX (He.frT g asL) (d.at_ (He.frT g asL))) = (true, prL.map PD.val))
    (h4 : (fnL.all fun d => d.ok (He.frT g asL), fnL.map fun d => He.fnW (He.frT g asL) d.at_, tsL.map fun t => He.dicW (He.frT g asL) (t.1 (He.frT g asL))) = (true, fnL.map He.DefD.val, tsL.map fun t => some (He.keysIn w.params t.2))) : obsP asL fileL g = valP w := by
  obtain ⟨a1, a2⟩ := Prod.mk.inj h3
  obtain ⟨b1, b23⟩ := Prod.mk.inj h4
  obtain ⟨b2, b3⟩ := Prod.mk.inj b23
  obtain ⟨c1, c2⟩ := He.ba a1
  show (((((faL.all fun f => f.ok (He.frT g asL)) && fnL.all fun d => d.ok (He.frT g asL)), fnL.map fun d => He.fnW (He.frT g asL) d.at_), tsL.map fun t => He.dicW (He.frT g asL) (t.1 (He.frT g asL))), (bMore (He.frT g asL) fileL && He.tabsB g tfL (He.frT g asL), prL.map fun d => fnX (He.frT g asL) (d.at_ (He.frT g asL)))) = valP w
  rw [c1, c2, a2, b1, b2, b3]
  rfl
theorem runL (w : World) : HandSHeadRun.RunEq rowL viewL (hookP asL fileL) obL 12000 nmsL w := fun os => by
  obtain ⟨s, e, h1, h2, h3, h4⟩ := four (β := _) (γ := Unit) (runB w os) (runC w os) (runG w os) (runH w os)
  rw [e]
  show some (_, _, _) = _
  rw [h1, h2]
  exact congrArg (fun z => some (true, PySem.W.openGood viewL nmsL, z)) (obs_is h3 h4)
theorem room0 : Room 33 callerA := ⟨rfl, by decide, by decide⟩
theorem walkL : PySem.W.WalkO viewL nmsL (PySem.W.XL viewL []) (hookP asL fileL).says (PySem.W.OpenLaw.row PySem.Challenge.rw_twobricks_k82_whole_steps_see_and_cannot).toRowW (HandSHeadRun.topDef rowL.prog 137) [] (fun f vs => PySem.call f vs) := by
  refine Att.attach_callB (n := 63) rfl (by kernel_rfl) fun w s0 s1 mg mb fa o pm cd doc a vs ns G W ho hd hcd hmg hobj hints hlen hbits hg => ?_
  obtain ⟨K, X, S⟩ := W
  have g := G.T.g
  have T := txt_of X g S
  have hmg : mg ("law" : Str) = some (.ref fa) := by
    have e : (HandSHeadRun.topDef rowL.prog 137).name = ("law" : Str) := by kernel_rfl
    rw [← e]
    exact hmg
  have efa : fa = He.ga K "law" := by
    rw [T.g_law] at hmg
    cases hmg
    rfl
  subst efa
  have FI := fini_of (P := (PySem.Challenge.rw_twobricks_k82_whole_steps_see_and_cannot).prog) S rfl (by kernel_rfl) T.n_super
  have code : (fdA K (He.ga K "law")).code = .ref (He.cT K ("law", none)).1 := by
    obtain ⟨oc, od, dV, kV, doc, pm, an, cdv, ct, osl, e1, lk, ci, _⟩ := T.f_law.ex
    obtain ⟨c, ec⟩ := He.codeIn_ref ci
    have e2 : (fdA K (He.ga K "law")).code = .ref c := by rw [e1]; exact ec
    have e3 : He.codeOf K ("law", none) = c := He.codeOf_eq (p := ("law", none)) lk e2
    rw [e2]
    show Value.ref c = .ref (He.codeOf K ("law", none))
    rw [e3]
  have mem : ((("law" : Str), none) : He.Defn) ∈ tfL := List.mem_singleton.mpr rfl
  have bd := FunD.bindsA (ps := [("_law_script" : Str)]) T.f_law fun _ _ _ _ _ _ us hl => match us, hl with | [_], _ => rfl
  exact callG (P := (PySem.Challenge.rw_twobricks_k82_whole_steps_see_and_cannot).prog) (w := w) (K := K) (x := "_law_script") (sp := sp_law K (He.cT K ("law", none)).2) X g G.T.b G.T.builtins G.T.nolimit hg (S.empty _ mem) (S.out _ mem) (PySem.W.codeHd_of_K X (S.hd _ mem)) G.T.bmain hobj hints (Nat.le_trans hlen (by decide)) room0
    (fun base tb => okG_law tb code T (tab_of X g S) (yrd_of X g S) (exn_of X g S) FI (shl_of X g S) (bm_of S) S.rest.2.2.2.2.2.2)
    (fun s u => bd s [u] rfl) (fun H hT hS => ⟨a, ns, rfl, hS, hlen, hT, fun _ => rfl⟩)
end TB
open PySem PySem.W PySem.Calls PyProof.Rows
theorem PySem.Challenge.cw_twobricks_k82_whole_steps_see_and_cannot_holds : PySem.Challenge.rw_twobricks_k82_whole_steps_see_and_cannot.Holds := by
  w_on; o_law
  refine HandSHeadRun.head_any (r := OpenLaw.row PySem.Challenge.rw_twobricks_k82_whole_steps_see_and_cannot) (q := TB.viewL) (H := TB.hookP TB.asL TB.fileL) (ob := TB.obL) (M := 12000) (loose := TB.nmsL) (d := HandSHeadRun.topDef TB.rowL.prog 137) (kwd := []) TB.obL_eq
    (by kernel_rfl) (fun s => by kernel_rfl) TB.runL (by kernel_rfl) (by kernel_rfl) (by kernel_rfl) (by rfl) (by first | assumption | decide +kernel) (by decide +kernel) ⟨rfl, rfl, rfl, rfl, rfl, by decide +kernel⟩ ?hw TB.walkL
  case hw => w_witness2
