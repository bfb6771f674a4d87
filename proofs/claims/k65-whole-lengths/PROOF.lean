import PyProof.Rows.All
import Wide.All
import OpenK.AllK
import Wide.FinOn
import KE.KStateDown
import KE.KSuper
import KE.SortKeyHeap
import HandS.ForMost
import HandS.More
import HandS.Defaults
import HandS.DictComp
import HandS.IsInst
import HandS.Codes
import HandS.ListItems
import HandS.OwnEq
import HandS.DeepEq
import HandS.Deep
import HandS.Conv
import HandS.SetKeys
import HandS.Flow
import HandS.Style
import HandS.Wide
import HandS.WideBits
import HandS.SortKw
import HandS.HeadHook1
import HandS.HeadHook2
import HandS.Base
import HandS.Call
import HandS.Ends
import HandS.Words
import HandS.WordsExc
import HandS.Head0
import HandS.Head1
import HandS.Head2
import HandS.HeadEnd
import PySem.Str
import PyProof.Rows.TmSorted
import HandS.SetTxt0
import HandS.Strs
import KE.KDictList
import HandS.ClsMeth
import HandS.Nested
import PyProof.StrBlock2
import HandS.DictEq
import PySem.Challenge.RW_coverways_k65_whole_lengths_never_fall
/-! CwText -/
set_option Elab.async false
set_option linter.all false
set_option maxRecDepth 100000
set_option maxHeartbeats 4000000
/-! The text by places, and what the top leaves behind it (Txt). Printed by wip/gen.py. -/
namespace Cw
open PySem PySem.Spec PyProof.Rows L2
def top (i : Nat) : Stmt := PySem.Challenge.pw_coverways_k65_whole_lengths_never_fall.main.body.getD i (.Pass ⟨0, 0, 0, 0⟩)
abbrev s_is_integer : Stmt := top 25
abbrev s_is_list : Stmt := top 26
abbrev s_is_width : Stmt := top 27
abbrev s_is_bits : Stmt := top 28
abbrev s_is_name : Stmt := top 29
abbrev s_is_address : Stmt := top 30
abbrev s_want_width : Stmt := top 31
abbrev s_want_address : Stmt := top 32
abbrev s_size_of : Stmt := top 33
abbrev s_begin_of : Stmt := top 34
abbrev s_address_of : Stmt := top 35
abbrev s_cell_rows : Stmt := top 36
abbrev s_last_hop : Stmt := top 39
abbrev s_is_way : Stmt := top 40
abbrev s_want_head : Stmt := top 41
abbrev s_want_members : Stmt := top 42
abbrev s_Item_init : Stmt := inClass (top 44) 1
abbrev s_Item_way : Stmt := inClass (top 44) 2
abbrev s_Item_sees : Stmt := inClass (top 44) 3
abbrev s_Item_eq : Stmt := inClass (top 44) 5
abbrev s_Gatherer_init : Stmt := inClass (top 46) 1
abbrev s_Gatherer_members : Stmt := inClass (top 46) 2
abbrev s_want_items : Stmt := top 55
abbrev s_is_right_member : Stmt := top 56
abbrev s_want_gathered : Stmt := top 57
abbrev s_hops_of : Stmt := top 58
abbrev s_want_few : Stmt := top 59
abbrev s_Gathered_init : Stmt := inClass (top 60) 0
abbrev s_Gathered_hops : Stmt := inClass (top 60) 3
abbrev s_Gathered_leaves : Stmt := inClass (top 60) 4
abbrev s_Gathered_gatherers : Stmt := inClass (top 60) 5
abbrev s_Gathered_getitem : Stmt := inClass (top 60) 6
abbrev s_Gathered_contains : Stmt := inClass (top 60) 9
abbrev s_Gathered_cells : Stmt := inClass (top 60) 10
abbrev s_Gathered_want_gatherer : Stmt := inClass (top 60) 12
abbrev s_Gathered_with_other : Stmt := inClass (top 60) 13
abbrev s_Gathered_with_hole : Stmt := inClass (top 60) 14
abbrev s_Gathered_without_hole : Stmt := inClass (top 60) 15
abbrev s_Gathered_eq : Stmt := inClass (top 60) 16
abbrev s_Gathered_want_withdrawn : Stmt := inClass (top 60) 18
abbrev s_Gathered_want_hop : Stmt := inClass (top 60) 19
abbrev s_Gathered_want_question : Stmt := inClass (top 60) 20
abbrev s_Gathered_sent_by : Stmt := inClass (top 60) 23
abbrev s_Gathered_way : Stmt := inClass (top 60) 24
abbrev s_Gathered_end : Stmt := inClass (top 60) 25
abbrev s_stretch_length : Stmt := top 61
abbrev s_standing_names : Stmt := top 62
abbrev s_does_lack : Stmt := top 63
abbrev s_item_for : Stmt := top 64
abbrev s_step_under : Stmt := top 65
abbrev s_way_under : Stmt := top 66
abbrev s_all_withdrawn : Stmt := top 68
abbrev s_all_standing : Stmt := top 69
abbrev s_full_cells : Stmt := top 70
abbrev s_ring_from : Stmt := top 71
abbrev s_first_ring : Stmt := top 72
abbrev s_is_safe : Stmt := top 73
abbrev s_round_paper : Stmt := top 74
abbrev s_law_pot : Stmt := top 76
abbrev s_law_draw : Stmt := top 77
abbrev s_law_among : Stmt := top 78
abbrev s_law_road : Stmt := top 79
abbrev s_law_eyes : Stmt := top 80
abbrev s_law_thing : Stmt := top 81
abbrev s_law_deal : Stmt := top 82
abbrev s_law_object : Stmt := top 83
abbrev s_law_made : Stmt := top 84
abbrev s_law_few : Stmt := top 85
abbrev s_law_spots : Stmt := top 86
abbrev s_law_asked : Stmt := top 87
abbrev s_law_low : Stmt := top 88
abbrev s_law_gones : Stmt := top 89
abbrev s_law_tops : Stmt := top 90
abbrev s_law_way_rises : Stmt := top 91
abbrev s_law_all_rise : Stmt := top 92
abbrev s_law_told_round : Stmt := top 93
abbrev s_law_cases : Stmt := top 94
abbrev s_law_right : Stmt := top 95
abbrev s_law : Stmt := top 96
/-- a def as it stands behind the top, some defaults with it -/
def DefAt (K : PySem.W.Frag) (x qual : Str) (st : Stmt) (n : Nat) (f : Addr) : Prop := ∃ (dvs : List V) (fd : FuncData), dvs.length = n ∧ FunD K x qual (defArgs st) (defBody st) (defScope st) dvs [] f fd
/-- a class of items -/
structure ItemC (K : PySem.W.Frag) (C : Addr) (word : Str) : Prop where
  ins : C8.InsC K C
  n_name : NoAttr K C "name"
  n_stretch : NoAttr K C "stretch"
  n_keeper : NoAttr K C "keeper"
  n_own_way : NoAttr K C "own_way"
  n_own_parts : NoAttr K C "own_parts"
  n_own_members : NoAttr K C "own_members"
  m_way : Meth K C "way" (He.ma K (He.ga K "Item") "way")
  m_sees : Meth K C "sees" (He.ma K (He.ga K "Item") "sees")
  m_eq : Meth K C "__eq__" (He.ma K (He.ga K "Item") "__eq__")
  word : ∃ u, Con K C "WORD" (.str word) u
  k_item : PySem.W.kitOne K (.ref C) (.ref (He.ga K "Item")) = some true
structure Txt (K : PySem.W.Frag) (mg : Str → Option Value) : Prop where
  d_is_integer : DefAt K "is_integer" "is_integer" s_is_integer 0 (He.ga K "is_integer")
  d_is_list : DefAt K "is_list" "is_list" s_is_list 0 (He.ga K "is_list")
  d_is_width : DefAt K "is_width" "is_width" s_is_width 0 (He.ga K "is_width")
  d_is_bits : DefAt K "is_bits" "is_bits" s_is_bits 0 (He.ga K "is_bits")
  d_is_name : DefAt K "is_name" "is_name" s_is_name 0 (He.ga K "is_name")
  d_is_address : DefAt K "is_address" "is_address" s_is_address 0 (He.ga K "is_address")
  d_want_width : DefAt K "want_width" "want_width" s_want_width 0 (He.ga K "want_width")
  d_want_address : DefAt K "want_address" "want_address" s_want_address 0 (He.ga K "want_address")
  d_size_of : DefAt K "size_of" "size_of" s_size_of 0 (He.ga K "size_of")
  d_begin_of : DefAt K "begin_of" "begin_of" s_begin_of 0 (He.ga K "begin_of")
  d_address_of : DefAt K "address_of" "address_of" s_address_of 0 (He.ga K "address_of")
  d_cell_rows : DefAt K "cell_rows" "cell_rows" s_cell_rows 0 (He.ga K "cell_rows")
  d_last_hop : DefAt K "last_hop" "last_hop" s_last_hop 0 (He.ga K "last_hop")
  d_is_way : DefAt K "is_way" "is_way" s_is_way 0 (He.ga K "is_way")
  d_want_head : DefAt K "want_head" "want_head" s_want_head 0 (He.ga K "want_head")
  d_want_members : DefAt K "want_members" "want_members" s_want_members 0 (He.ga K "want_members")
  d_Item_init : DefAt K "__init__" "Item.__init__" s_Item_init 1 (He.ma K (He.ga K "Item") "__init__")
  d_Item_way : DefAt K "way" "Item.way" s_Item_way 0 (He.ma K (He.ga K "Item") "way")
  d_Item_sees : DefAt K "sees" "Item.sees" s_Item_sees 0 (He.ma K (He.ga K "Item") "sees")
  d_Item_eq : DefAt K "__eq__" "Item.__eq__" s_Item_eq 0 (He.ma K (He.ga K "Item") "__eq__")
  d_Gatherer_members : DefAt K "members" "Gatherer.members" s_Gatherer_members 0 (He.ma K (He.ga K "Gatherer") "members")
  d_want_items : DefAt K "want_items" "want_items" s_want_items 0 (He.ga K "want_items")
  d_is_right_member : DefAt K "is_right_member" "is_right_member" s_is_right_member 0 (He.ga K "is_right_member")
  d_want_gathered : DefAt K "want_gathered" "want_gathered" s_want_gathered 0 (He.ga K "want_gathered")
  d_hops_of : DefAt K "hops_of" "hops_of" s_hops_of 0 (He.ga K "hops_of")
  d_want_few : DefAt K "want_few" "want_few" s_want_few 0 (He.ga K "want_few")
  d_Gathered_init : DefAt K "__init__" "Gathered.__init__" s_Gathered_init 0 (He.ma K (He.ga K "Gathered") "__init__")
  d_Gathered_hops : DefAt K "hops" "Gathered.hops" s_Gathered_hops 0 (He.ma K (He.ga K "Gathered") "hops")
  d_Gathered_leaves : DefAt K "leaves" "Gathered.leaves" s_Gathered_leaves 0 (He.ma K (He.ga K "Gathered") "leaves")
  d_Gathered_gatherers : DefAt K "gatherers" "Gathered.gatherers" s_Gathered_gatherers 0 (He.ma K (He.ga K "Gathered") "gatherers")
  d_Gathered_getitem : DefAt K "__getitem__" "Gathered.__getitem__" s_Gathered_getitem 0 (He.ma K (He.ga K "Gathered") "__getitem__")
  d_Gathered_contains : DefAt K "__contains__" "Gathered.__contains__" s_Gathered_contains 0 (He.ma K (He.ga K "Gathered") "__contains__")
  d_Gathered_cells : DefAt K "cells" "Gathered.cells" s_Gathered_cells 0 (He.ma K (He.ga K "Gathered") "cells")
  d_Gathered_want_gatherer : DefAt K "want_gatherer" "Gathered.want_gatherer" s_Gathered_want_gatherer 0 (He.ma K (He.ga K "Gathered") "want_gatherer")
  d_Gathered_with_other : DefAt K "with_other" "Gathered.with_other" s_Gathered_with_other 0 (He.ma K (He.ga K "Gathered") "with_other")
  d_Gathered_with_hole : DefAt K "with_hole" "Gathered.with_hole" s_Gathered_with_hole 0 (He.ma K (He.ga K "Gathered") "with_hole")
  d_Gathered_without_hole : DefAt K "without_hole" "Gathered.without_hole" s_Gathered_without_hole 0 (He.ma K (He.ga K "Gathered") "without_hole")
  d_Gathered_eq : DefAt K "__eq__" "Gathered.__eq__" s_Gathered_eq 0 (He.ma K (He.ga K "Gathered") "__eq__")
  d_Gathered_want_withdrawn : DefAt K "want_withdrawn" "Gathered.want_withdrawn" s_Gathered_want_withdrawn 0 (He.ma K (He.ga K "Gathered") "want_withdrawn")
  d_Gathered_want_hop : DefAt K "want_hop" "Gathered.want_hop" s_Gathered_want_hop 0 (He.ma K (He.ga K "Gathered") "want_hop")
  d_Gathered_want_question : DefAt K "want_question" "Gathered.want_question" s_Gathered_want_question 0 (He.ma K (He.ga K "Gathered") "want_question")
  d_Gathered_sent_by : DefAt K "sent_by" "Gathered.sent_by" s_Gathered_sent_by 1 (He.ma K (He.ga K "Gathered") "sent_by")
  d_Gathered_way : DefAt K "way" "Gathered.way" s_Gathered_way 1 (He.ma K (He.ga K "Gathered") "way")
  d_Gathered_end : DefAt K "end" "Gathered.end" s_Gathered_end 1 (He.ma K (He.ga K "Gathered") "end")
  d_stretch_length : DefAt K "stretch_length" "stretch_length" s_stretch_length 0 (He.ga K "stretch_length")
  d_standing_names : DefAt K "standing_names" "standing_names" s_standing_names 0 (He.ga K "standing_names")
  d_does_lack : DefAt K "does_lack" "does_lack" s_does_lack 0 (He.ga K "does_lack")
  d_item_for : DefAt K "item_for" "item_for" s_item_for 0 (He.ga K "item_for")
  d_step_under : DefAt K "step_under" "step_under" s_step_under 0 (He.ga K "step_under")
  d_way_under : DefAt K "way_under" "way_under" s_way_under 0 (He.ga K "way_under")
  d_all_withdrawn : DefAt K "all_withdrawn" "all_withdrawn" s_all_withdrawn 0 (He.ga K "all_withdrawn")
  d_all_standing : DefAt K "all_standing" "all_standing" s_all_standing 0 (He.ga K "all_standing")
  d_full_cells : DefAt K "full_cells" "full_cells" s_full_cells 0 (He.ga K "full_cells")
  d_ring_from : DefAt K "ring_from" "ring_from" s_ring_from 0 (He.ga K "ring_from")
  d_first_ring : DefAt K "first_ring" "first_ring" s_first_ring 0 (He.ga K "first_ring")
  d_is_safe : DefAt K "is_safe" "is_safe" s_is_safe 0 (He.ga K "is_safe")
  d_round_paper : DefAt K "round_paper" "round_paper" s_round_paper 0 (He.ga K "round_paper")
  d_law_pot : DefAt K "_law_pot" "_law_pot" s_law_pot 0 (He.ga K "_law_pot")
  d_law_draw : DefAt K "_law_draw" "_law_draw" s_law_draw 0 (He.ga K "_law_draw")
  d_law_among : DefAt K "_law_among" "_law_among" s_law_among 0 (He.ga K "_law_among")
  d_law_road : DefAt K "_law_road" "_law_road" s_law_road 0 (He.ga K "_law_road")
  d_law_eyes : DefAt K "_law_eyes" "_law_eyes" s_law_eyes 0 (He.ga K "_law_eyes")
  d_law_thing : DefAt K "_law_thing" "_law_thing" s_law_thing 0 (He.ga K "_law_thing")
  d_law_deal : DefAt K "_law_deal" "_law_deal" s_law_deal 0 (He.ga K "_law_deal")
  d_law_object : DefAt K "_law_object" "_law_object" s_law_object 0 (He.ga K "_law_object")
  d_law_made : DefAt K "_law_made" "_law_made" s_law_made 0 (He.ga K "_law_made")
  d_law_few : DefAt K "_law_few" "_law_few" s_law_few 0 (He.ga K "_law_few")
  d_law_spots : DefAt K "_law_spots" "_law_spots" s_law_spots 0 (He.ga K "_law_spots")
  d_law_asked : DefAt K "_law_asked" "_law_asked" s_law_asked 0 (He.ga K "_law_asked")
  d_law_low : DefAt K "_law_low" "_law_low" s_law_low 0 (He.ga K "_law_low")
  d_law_gones : DefAt K "_law_gones" "_law_gones" s_law_gones 0 (He.ga K "_law_gones")
  d_law_tops : DefAt K "_law_tops" "_law_tops" s_law_tops 0 (He.ga K "_law_tops")
  d_law_way_rises : DefAt K "_law_way_rises" "_law_way_rises" s_law_way_rises 0 (He.ga K "_law_way_rises")
  d_law_all_rise : DefAt K "_law_all_rise" "_law_all_rise" s_law_all_rise 0 (He.ga K "_law_all_rise")
  d_law_told_round : DefAt K "_law_told_round" "_law_told_round" s_law_told_round 0 (He.ga K "_law_told_round")
  d_law_cases : DefAt K "_law_cases" "_law_cases" s_law_cases 0 (He.ga K "_law_cases")
  d_law_right : DefAt K "_law_right" "_law_right" s_law_right 0 (He.ga K "_law_right")
  d_law : DefAt K "law" "law" s_law 0 (He.ga K "law")
  g_is_integer : mg "is_integer" = some (.ref (He.ga K "is_integer"))
  g_is_list : mg "is_list" = some (.ref (He.ga K "is_list"))
  g_is_width : mg "is_width" = some (.ref (He.ga K "is_width"))
  g_is_bits : mg "is_bits" = some (.ref (He.ga K "is_bits"))
  g_is_name : mg "is_name" = some (.ref (He.ga K "is_name"))
  g_is_address : mg "is_address" = some (.ref (He.ga K "is_address"))
  g_want_width : mg "want_width" = some (.ref (He.ga K "want_width"))
  g_want_address : mg "want_address" = some (.ref (He.ga K "want_address"))
  g_size_of : mg "size_of" = some (.ref (He.ga K "size_of"))
  g_begin_of : mg "begin_of" = some (.ref (He.ga K "begin_of"))
  g_address_of : mg "address_of" = some (.ref (He.ga K "address_of"))
  g_cell_rows : mg "cell_rows" = some (.ref (He.ga K "cell_rows"))
  g_last_hop : mg "last_hop" = some (.ref (He.ga K "last_hop"))
  g_is_way : mg "is_way" = some (.ref (He.ga K "is_way"))
  g_want_head : mg "want_head" = some (.ref (He.ga K "want_head"))
  g_want_members : mg "want_members" = some (.ref (He.ga K "want_members"))
  g_want_items : mg "want_items" = some (.ref (He.ga K "want_items"))
  g_is_right_member : mg "is_right_member" = some (.ref (He.ga K "is_right_member"))
  g_want_gathered : mg "want_gathered" = some (.ref (He.ga K "want_gathered"))
  g_hops_of : mg "hops_of" = some (.ref (He.ga K "hops_of"))
  g_want_few : mg "want_few" = some (.ref (He.ga K "want_few"))
  g_stretch_length : mg "stretch_length" = some (.ref (He.ga K "stretch_length"))
  g_standing_names : mg "standing_names" = some (.ref (He.ga K "standing_names"))
  g_does_lack : mg "does_lack" = some (.ref (He.ga K "does_lack"))
  g_item_for : mg "item_for" = some (.ref (He.ga K "item_for"))
  g_step_under : mg "step_under" = some (.ref (He.ga K "step_under"))
  g_way_under : mg "way_under" = some (.ref (He.ga K "way_under"))
  g_all_withdrawn : mg "all_withdrawn" = some (.ref (He.ga K "all_withdrawn"))
  g_all_standing : mg "all_standing" = some (.ref (He.ga K "all_standing"))
  g_full_cells : mg "full_cells" = some (.ref (He.ga K "full_cells"))
  g_ring_from : mg "ring_from" = some (.ref (He.ga K "ring_from"))
  g_first_ring : mg "first_ring" = some (.ref (He.ga K "first_ring"))
  g_is_safe : mg "is_safe" = some (.ref (He.ga K "is_safe"))
  g_round_paper : mg "round_paper" = some (.ref (He.ga K "round_paper"))
  g_law_pot : mg "_law_pot" = some (.ref (He.ga K "_law_pot"))
  g_law_draw : mg "_law_draw" = some (.ref (He.ga K "_law_draw"))
  g_law_among : mg "_law_among" = some (.ref (He.ga K "_law_among"))
  g_law_road : mg "_law_road" = some (.ref (He.ga K "_law_road"))
  g_law_eyes : mg "_law_eyes" = some (.ref (He.ga K "_law_eyes"))
  g_law_thing : mg "_law_thing" = some (.ref (He.ga K "_law_thing"))
  g_law_deal : mg "_law_deal" = some (.ref (He.ga K "_law_deal"))
  g_law_object : mg "_law_object" = some (.ref (He.ga K "_law_object"))
  g_law_made : mg "_law_made" = some (.ref (He.ga K "_law_made"))
  g_law_few : mg "_law_few" = some (.ref (He.ga K "_law_few"))
  g_law_spots : mg "_law_spots" = some (.ref (He.ga K "_law_spots"))
  g_law_asked : mg "_law_asked" = some (.ref (He.ga K "_law_asked"))
  g_law_low : mg "_law_low" = some (.ref (He.ga K "_law_low"))
  g_law_gones : mg "_law_gones" = some (.ref (He.ga K "_law_gones"))
  g_law_tops : mg "_law_tops" = some (.ref (He.ga K "_law_tops"))
  g_law_way_rises : mg "_law_way_rises" = some (.ref (He.ga K "_law_way_rises"))
  g_law_all_rise : mg "_law_all_rise" = some (.ref (He.ga K "_law_all_rise"))
  g_law_told_round : mg "_law_told_round" = some (.ref (He.ga K "_law_told_round"))
  g_law_cases : mg "_law_cases" = some (.ref (He.ga K "_law_cases"))
  g_law_right : mg "_law_right" = some (.ref (He.ga K "_law_right"))
  g_law : mg "law" = some (.ref (He.ga K "law"))
  g_Item : mg "Item" = some (.ref (He.ga K "Item"))
  g_Leaf : mg "Leaf" = some (.ref (He.ga K "Leaf"))
  g_Gatherer : mg "Gatherer" = some (.ref (He.ga K "Gatherer"))
  g_Closed : mg "Closed" = some (.ref (He.ga K "Closed"))
  g_Gathered : mg "Gathered" = some (.ref (He.ga K "Gathered"))
  b_len : mg "len" = none
  b_isinstance : mg "isinstance" = none
  b_int : mg "int" = none
  b_bool : mg "bool" = none
  b_str : mg "str" = none
  b_list : mg "list" = none
  b_tuple : mg "tuple" = none
  b_dict : mg "dict" = none
  b_sorted : mg "sorted" = none
  b_all : mg "all" = none
  b_any : mg "any" = none
  b_range : mg "range" = none
  b_enumerate : mg "enumerate" = none
  b_abs : mg "abs" = none
  b_max : mg "max" = none
  b_min : mg "min" = none
  b_divmod : mg "divmod" = none
  b_set : mg "set" = none
  b_super : mg "super" = none
  i_MOST_WIDTH : ∃ t, mg "MOST_WIDTH" = some (.int 100 t)
  i_LONGEST_NAME : ∃ t, mg "LONGEST_NAME" = some (.int 6 t)
  i_LONGEST : ∃ t, mg "LONGEST" = some (.int 100 t)
  i_MOST_HOPS : ∃ t, mg "MOST_HOPS" = some (.int 6 t)
  i_MOST_LEAVES : ∃ t, mg "MOST_LEAVES" = some (.int 6 t)
  i_MOST_GATHERERS : ∃ t, mg "MOST_GATHERERS" = some (.int 5 t)
  i_MOST_NESTED : ∃ t, mg "MOST_NESTED" = some (.int 5 t)
  s_LETTERS : ∃ t, mg "LETTERS" = some (.str "abcdefghijklmnopqrstuvwxyz" t)
  g_KEPT_WORDS : mg "KEPT_WORDS" = some (.ref (He.ga K "KEPT_WORDS"))
  t_KEPT_WORDS : ∀ H, SqT K H (He.ga K "KEPT_WORDS") [.str "home", .str "hole", .str "ring", .str "all", .str "none"]
  g_ENDS : mg "ENDS" = some (.ref (He.ga K "ENDS"))
  t_ENDS : ∀ H, SqT K H (He.ga K "ENDS") [.str "home", .str "hole"]
  c_Leaf : ItemC K (He.ga K "Leaf") "Leaf"
  c_Gatherer : ItemC K (He.ga K "Gatherer") "Gatherer"
  c_Closed : ItemC K (He.ga K "Closed") "Closed"
  k_Leaf_Leaf : PySem.W.kitOne K (.ref (He.ga K "Leaf")) (.ref (He.ga K "Leaf")) = some true
  k_Leaf_Gatherer : PySem.W.kitOne K (.ref (He.ga K "Leaf")) (.ref (He.ga K "Gatherer")) = some false
  k_Leaf_Closed : PySem.W.kitOne K (.ref (He.ga K "Leaf")) (.ref (He.ga K "Closed")) = some false
  k_Gatherer_Leaf : PySem.W.kitOne K (.ref (He.ga K "Gatherer")) (.ref (He.ga K "Leaf")) = some false
  k_Gatherer_Gatherer : PySem.W.kitOne K (.ref (He.ga K "Gatherer")) (.ref (He.ga K "Gatherer")) = some true
  k_Gatherer_Closed : PySem.W.kitOne K (.ref (He.ga K "Gatherer")) (.ref (He.ga K "Closed")) = some false
  k_Closed_Leaf : PySem.W.kitOne K (.ref (He.ga K "Closed")) (.ref (He.ga K "Leaf")) = some false
  k_Closed_Gatherer : PySem.W.kitOne K (.ref (He.ga K "Closed")) (.ref (He.ga K "Gatherer")) = some true
  k_Closed_Closed : PySem.W.kitOne K (.ref (He.ga K "Closed")) (.ref (He.ga K "Closed")) = some true
  k_Gathered_Gathered : PySem.W.kitOne K (.ref (He.ga K "Gathered")) (.ref (He.ga K "Gathered")) = some true
  mk_Leaf : Mk K (He.ga K "Leaf") (He.ma K (He.ga K "Item") "__init__")
  mk_Gatherer : Mk K (He.ga K "Gatherer") (He.ma K (He.ga K "Gatherer") "__init__")
  mk_Closed : Mk K (He.ga K "Closed") (He.ma K (He.ga K "Gatherer") "__init__")
  m_Gatherer_members : Meth K (He.ga K "Gatherer") "members" (He.ma K (He.ga K "Gatherer") "members")
  m_Closed_members : Meth K (He.ga K "Closed") "members" (He.ma K (He.ga K "Gatherer") "members")
  c_Gathered : C8.InsC K (He.ga K "Gathered")
  n_own_width : NoAttr K (He.ga K "Gathered") "own_width"
  n_told_items : NoAttr K (He.ga K "Gathered") "told_items"
  n_own_items : NoAttr K (He.ga K "Gathered") "own_items"
  mk_Gathered : Mk K (He.ga K "Gathered") (He.ma K (He.ga K "Gathered") "__init__")
  m_Gathered_hops : Meth K (He.ga K "Gathered") "hops" (He.ma K (He.ga K "Gathered") "hops")
  m_Gathered_leaves : Meth K (He.ga K "Gathered") "leaves" (He.ma K (He.ga K "Gathered") "leaves")
  m_Gathered_gatherers : Meth K (He.ga K "Gathered") "gatherers" (He.ma K (He.ga K "Gathered") "gatherers")
  m_Gathered_getitem : Meth K (He.ga K "Gathered") "__getitem__" (He.ma K (He.ga K "Gathered") "__getitem__")
  m_Gathered_contains : Meth K (He.ga K "Gathered") "__contains__" (He.ma K (He.ga K "Gathered") "__contains__")
  m_Gathered_cells : Meth K (He.ga K "Gathered") "cells" (He.ma K (He.ga K "Gathered") "cells")
  m_Gathered_want_gatherer : Meth K (He.ga K "Gathered") "want_gatherer" (He.ma K (He.ga K "Gathered") "want_gatherer")
  m_Gathered_with_other : Meth K (He.ga K "Gathered") "with_other" (He.ma K (He.ga K "Gathered") "with_other")
  m_Gathered_with_hole : Meth K (He.ga K "Gathered") "with_hole" (He.ma K (He.ga K "Gathered") "with_hole")
  m_Gathered_without_hole : Meth K (He.ga K "Gathered") "without_hole" (He.ma K (He.ga K "Gathered") "without_hole")
  m_Gathered_eq : Meth K (He.ga K "Gathered") "__eq__" (He.ma K (He.ga K "Gathered") "__eq__")
  m_Gathered_want_withdrawn : Meth K (He.ga K "Gathered") "want_withdrawn" (He.ma K (He.ga K "Gathered") "want_withdrawn")
  m_Gathered_want_hop : Meth K (He.ga K "Gathered") "want_hop" (He.ma K (He.ga K "Gathered") "want_hop")
  m_Gathered_want_question : Meth K (He.ga K "Gathered") "want_question" (He.ma K (He.ga K "Gathered") "want_question")
  m_Gathered_sent_by : Meth K (He.ga K "Gathered") "sent_by" (He.ma K (He.ga K "Gathered") "sent_by")
  m_Gathered_way : Meth K (He.ga K "Gathered") "way" (He.ma K (He.ga K "Gathered") "way")
  m_Gathered_end : Meth K (He.ga K "Gathered") "end" (He.ma K (He.ga K "Gathered") "end")
/-! ### how they are called -/
/-- a def that keeps a promise, all its arguments written -/
structure Cal (P : Program) (w : World) (K : PySem.W.Frag) (mg : Str → Option Value) (base : Heap) (k : Nat) (f : Addr) (ps : List Str) (sp : Sp) : Prop where
  ex : ∃ fd, FnOk P w K mg base CX0 k f fd ps sp ∧ Binds K fd ps [] ∧ PySem.W.keepIn K (.ref f) = true
end Cw

/-! CwHd -/
set_option Elab.async false
set_option linter.all false
set_option maxRecDepth 100000
set_option maxHeartbeats 0
/-! What the top leaves: the facts as Bools over a part K of the heap, and the run of the top by the kernel. Printed by wip/gen_head.py. -/
namespace Cw
open PySem PySem.Spec PyProof.Rows L2
def gls0 : List Str := ["is_integer", "is_list", "is_width", "is_bits", "is_name", "is_address", "want_width", "want_address", "size_of", "begin_of", "address_of", "cell_rows", "last_hop", "is_way", "want_head", "want_members", "want_items", "is_right_member", "want_gathered", "hops_of", "want_few", "stretch_length", "standing_names", "does_lack", "item_for", "step_under", "way_under", "all_withdrawn", "all_standing", "full_cells"]
def gls1 : List Str := ["ring_from", "first_ring", "is_safe", "round_paper", "_law_pot", "_law_draw", "_law_among", "_law_road", "_law_eyes", "_law_thing", "_law_deal", "_law_object", "_law_made", "_law_few", "_law_spots", "_law_asked", "_law_low", "_law_gones", "_law_tops", "_law_way_rises", "_law_all_rise", "_law_told_round", "_law_cases", "_law_right", "law", "Item", "Leaf", "Gatherer", "Closed", "Gathered"]
def gls2 : List Str := ["Holed", "KEPT_WORDS", "ENDS"]
def gls : List Str := gls0 ++ gls1 ++ gls2
def frs0 : List Str := ["len", "isinstance", "int", "bool", "str", "list", "tuple", "dict", "sorted", "all", "any", "range", "enumerate", "abs", "max", "min", "divmod", "set", "super"]
def frs : List Str := frs0
def tIns : List (Str × Int) := [("MOST_WIDTH", 100), ("LONGEST_NAME", 6), ("LONGEST", 100), ("MOST_HOPS", 6), ("MOST_LEAVES", 6), ("MOST_GATHERERS", 5), ("MOST_NESTED", 5)]
def kits : List (Str × Str × Bool) := [("Leaf", "Leaf", true), ("Leaf", "Gatherer", false), ("Leaf", "Closed", false), ("Gatherer", "Leaf", false), ("Gatherer", "Gatherer", true), ("Gatherer", "Closed", false), ("Closed", "Leaf", false), ("Closed", "Gatherer", true), ("Closed", "Closed", true), ("Gathered", "Gathered", true)]
def gms : List Str := ["hops", "leaves", "gatherers", "__getitem__", "__contains__", "cells", "want_gatherer", "with_other", "with_hole", "without_hole", "__eq__", "want_withdrawn", "want_hop", "want_question", "sent_by", "way", "end"]
def flds : List Str := ["name", "stretch", "keeper", "own_way", "own_parts", "own_members"]
def gflds : List Str := ["own_width", "told_items", "own_items"]
def q_is_integer : He.DefD := ⟨("is_integer", none), "is_integer", "is_integer", defArgs s_is_integer, defBody s_is_integer, defScope s_is_integer, [], []⟩
def q_is_list : He.DefD := ⟨("is_list", none), "is_list", "is_list", defArgs s_is_list, defBody s_is_list, defScope s_is_list, [], []⟩
def q_is_width : He.DefD := ⟨("is_width", none), "is_width", "is_width", defArgs s_is_width, defBody s_is_width, defScope s_is_width, [], []⟩
def q_is_bits : He.DefD := ⟨("is_bits", none), "is_bits", "is_bits", defArgs s_is_bits, defBody s_is_bits, defScope s_is_bits, [], []⟩
def q_is_name : He.DefD := ⟨("is_name", none), "is_name", "is_name", defArgs s_is_name, defBody s_is_name, defScope s_is_name, [], []⟩
def q_is_address : He.DefD := ⟨("is_address", none), "is_address", "is_address", defArgs s_is_address, defBody s_is_address, defScope s_is_address, [], []⟩
def q_want_width : He.DefD := ⟨("want_width", none), "want_width", "want_width", defArgs s_want_width, defBody s_want_width, defScope s_want_width, [], []⟩
def q_want_address : He.DefD := ⟨("want_address", none), "want_address", "want_address", defArgs s_want_address, defBody s_want_address, defScope s_want_address, [], []⟩
def q_size_of : He.DefD := ⟨("size_of", none), "size_of", "size_of", defArgs s_size_of, defBody s_size_of, defScope s_size_of, [], []⟩
def q_begin_of : He.DefD := ⟨("begin_of", none), "begin_of", "begin_of", defArgs s_begin_of, defBody s_begin_of, defScope s_begin_of, [], []⟩
def q_address_of : He.DefD := ⟨("address_of", none), "address_of", "address_of", defArgs s_address_of, defBody s_address_of, defScope s_address_of, [], []⟩
def q_cell_rows : He.DefD := ⟨("cell_rows", none), "cell_rows", "cell_rows", defArgs s_cell_rows, defBody s_cell_rows, defScope s_cell_rows, [], []⟩
def q_last_hop : He.DefD := ⟨("last_hop", none), "last_hop", "last_hop", defArgs s_last_hop, defBody s_last_hop, defScope s_last_hop, [], []⟩
def q_is_way : He.DefD := ⟨("is_way", none), "is_way", "is_way", defArgs s_is_way, defBody s_is_way, defScope s_is_way, [], []⟩
def q_want_head : He.DefD := ⟨("want_head", none), "want_head", "want_head", defArgs s_want_head, defBody s_want_head, defScope s_want_head, [], []⟩
def q_want_members : He.DefD := ⟨("want_members", none), "want_members", "want_members", defArgs s_want_members, defBody s_want_members, defScope s_want_members, [], []⟩
def q_Item_init : He.DefD := ⟨("Item", some "__init__"), "__init__", "Item.__init__", defArgs s_Item_init, defBody s_Item_init, defScope s_Item_init, [.non], []⟩
def q_Item_way : He.DefD := ⟨("Item", some "way"), "way", "Item.way", defArgs s_Item_way, defBody s_Item_way, defScope s_Item_way, [], []⟩
def q_Item_sees : He.DefD := ⟨("Item", some "sees"), "sees", "Item.sees", defArgs s_Item_sees, defBody s_Item_sees, defScope s_Item_sees, [], []⟩
def q_Item_eq : He.DefD := ⟨("Item", some "__eq__"), "__eq__", "Item.__eq__", defArgs s_Item_eq, defBody s_Item_eq, defScope s_Item_eq, [], []⟩
def q_Gatherer_members : He.DefD := ⟨("Gatherer", some "members"), "members", "Gatherer.members", defArgs s_Gatherer_members, defBody s_Gatherer_members, defScope s_Gatherer_members, [], []⟩
def q_want_items : He.DefD := ⟨("want_items", none), "want_items", "want_items", defArgs s_want_items, defBody s_want_items, defScope s_want_items, [], []⟩
def q_is_right_member : He.DefD := ⟨("is_right_member", none), "is_right_member", "is_right_member", defArgs s_is_right_member, defBody s_is_right_member, defScope s_is_right_member, [], []⟩
def q_want_gathered : He.DefD := ⟨("want_gathered", none), "want_gathered", "want_gathered", defArgs s_want_gathered, defBody s_want_gathered, defScope s_want_gathered, [], []⟩
def q_hops_of : He.DefD := ⟨("hops_of", none), "hops_of", "hops_of", defArgs s_hops_of, defBody s_hops_of, defScope s_hops_of, [], []⟩
def q_want_few : He.DefD := ⟨("want_few", none), "want_few", "want_few", defArgs s_want_few, defBody s_want_few, defScope s_want_few, [], []⟩
def q_Gathered_init : He.DefD := ⟨("Gathered", some "__init__"), "__init__", "Gathered.__init__", defArgs s_Gathered_init, defBody s_Gathered_init, defScope s_Gathered_init, [], []⟩
def q_Gathered_hops : He.DefD := ⟨("Gathered", some "hops"), "hops", "Gathered.hops", defArgs s_Gathered_hops, defBody s_Gathered_hops, defScope s_Gathered_hops, [], []⟩
def q_Gathered_leaves : He.DefD := ⟨("Gathered", some "leaves"), "leaves", "Gathered.leaves", defArgs s_Gathered_leaves, defBody s_Gathered_leaves, defScope s_Gathered_leaves, [], []⟩
def q_Gathered_gatherers : He.DefD := ⟨("Gathered", some "gatherers"), "gatherers", "Gathered.gatherers", defArgs s_Gathered_gatherers, defBody s_Gathered_gatherers, defScope s_Gathered_gatherers, [], []⟩
def q_Gathered_getitem : He.DefD := ⟨("Gathered", some "__getitem__"), "__getitem__", "Gathered.__getitem__", defArgs s_Gathered_getitem, defBody s_Gathered_getitem, defScope s_Gathered_getitem, [], []⟩
def q_Gathered_contains : He.DefD := ⟨("Gathered", some "__contains__"), "__contains__", "Gathered.__contains__", defArgs s_Gathered_contains, defBody s_Gathered_contains, defScope s_Gathered_contains, [], []⟩
def q_Gathered_cells : He.DefD := ⟨("Gathered", some "cells"), "cells", "Gathered.cells", defArgs s_Gathered_cells, defBody s_Gathered_cells, defScope s_Gathered_cells, [], []⟩
def q_Gathered_want_gatherer : He.DefD := ⟨("Gathered", some "want_gatherer"), "want_gatherer", "Gathered.want_gatherer", defArgs s_Gathered_want_gatherer, defBody s_Gathered_want_gatherer, defScope s_Gathered_want_gatherer, [], []⟩
def q_Gathered_with_other : He.DefD := ⟨("Gathered", some "with_other"), "with_other", "Gathered.with_other", defArgs s_Gathered_with_other, defBody s_Gathered_with_other, defScope s_Gathered_with_other, [], []⟩
def q_Gathered_with_hole : He.DefD := ⟨("Gathered", some "with_hole"), "with_hole", "Gathered.with_hole", defArgs s_Gathered_with_hole, defBody s_Gathered_with_hole, defScope s_Gathered_with_hole, [], []⟩
def q_Gathered_without_hole : He.DefD := ⟨("Gathered", some "without_hole"), "without_hole", "Gathered.without_hole", defArgs s_Gathered_without_hole, defBody s_Gathered_without_hole, defScope s_Gathered_without_hole, [], []⟩
def q_Gathered_eq : He.DefD := ⟨("Gathered", some "__eq__"), "__eq__", "Gathered.__eq__", defArgs s_Gathered_eq, defBody s_Gathered_eq, defScope s_Gathered_eq, [], []⟩
def q_Gathered_want_withdrawn : He.DefD := ⟨("Gathered", some "want_withdrawn"), "want_withdrawn", "Gathered.want_withdrawn", defArgs s_Gathered_want_withdrawn, defBody s_Gathered_want_withdrawn, defScope s_Gathered_want_withdrawn, [], []⟩
def q_Gathered_want_hop : He.DefD := ⟨("Gathered", some "want_hop"), "want_hop", "Gathered.want_hop", defArgs s_Gathered_want_hop, defBody s_Gathered_want_hop, defScope s_Gathered_want_hop, [], []⟩
def q_Gathered_want_question : He.DefD := ⟨("Gathered", some "want_question"), "want_question", "Gathered.want_question", defArgs s_Gathered_want_question, defBody s_Gathered_want_question, defScope s_Gathered_want_question, [], []⟩
def q_Gathered_sent_by : He.DefD := ⟨("Gathered", some "sent_by"), "sent_by", "Gathered.sent_by", defArgs s_Gathered_sent_by, defBody s_Gathered_sent_by, defScope s_Gathered_sent_by, [.adr (He.dflAt ("Gathered", some "sent_by") 0)], []⟩
def q_Gathered_way : He.DefD := ⟨("Gathered", some "way"), "way", "Gathered.way", defArgs s_Gathered_way, defBody s_Gathered_way, defScope s_Gathered_way, [.adr (He.dflAt ("Gathered", some "way") 0)], []⟩
def q_Gathered_end : He.DefD := ⟨("Gathered", some "end"), "end", "Gathered.end", defArgs s_Gathered_end, defBody s_Gathered_end, defScope s_Gathered_end, [.adr (He.dflAt ("Gathered", some "end") 0)], []⟩
def q_stretch_length : He.DefD := ⟨("stretch_length", none), "stretch_length", "stretch_length", defArgs s_stretch_length, defBody s_stretch_length, defScope s_stretch_length, [], []⟩
def q_standing_names : He.DefD := ⟨("standing_names", none), "standing_names", "standing_names", defArgs s_standing_names, defBody s_standing_names, defScope s_standing_names, [], []⟩
def q_does_lack : He.DefD := ⟨("does_lack", none), "does_lack", "does_lack", defArgs s_does_lack, defBody s_does_lack, defScope s_does_lack, [], []⟩
def q_item_for : He.DefD := ⟨("item_for", none), "item_for", "item_for", defArgs s_item_for, defBody s_item_for, defScope s_item_for, [], []⟩
def q_step_under : He.DefD := ⟨("step_under", none), "step_under", "step_under", defArgs s_step_under, defBody s_step_under, defScope s_step_under, [], []⟩
def q_way_under : He.DefD := ⟨("way_under", none), "way_under", "way_under", defArgs s_way_under, defBody s_way_under, defScope s_way_under, [], []⟩
def q_all_withdrawn : He.DefD := ⟨("all_withdrawn", none), "all_withdrawn", "all_withdrawn", defArgs s_all_withdrawn, defBody s_all_withdrawn, defScope s_all_withdrawn, [], []⟩
def q_all_standing : He.DefD := ⟨("all_standing", none), "all_standing", "all_standing", defArgs s_all_standing, defBody s_all_standing, defScope s_all_standing, [], []⟩
def q_full_cells : He.DefD := ⟨("full_cells", none), "full_cells", "full_cells", defArgs s_full_cells, defBody s_full_cells, defScope s_full_cells, [], []⟩
def q_ring_from : He.DefD := ⟨("ring_from", none), "ring_from", "ring_from", defArgs s_ring_from, defBody s_ring_from, defScope s_ring_from, [], []⟩
def q_first_ring : He.DefD := ⟨("first_ring", none), "first_ring", "first_ring", defArgs s_first_ring, defBody s_first_ring, defScope s_first_ring, [], []⟩
def q_is_safe : He.DefD := ⟨("is_safe", none), "is_safe", "is_safe", defArgs s_is_safe, defBody s_is_safe, defScope s_is_safe, [], []⟩
def q_round_paper : He.DefD := ⟨("round_paper", none), "round_paper", "round_paper", defArgs s_round_paper, defBody s_round_paper, defScope s_round_paper, [], []⟩
def q_law_pot : He.DefD := ⟨("_law_pot", none), "_law_pot", "_law_pot", defArgs s_law_pot, defBody s_law_pot, defScope s_law_pot, [], []⟩
def q_law_draw : He.DefD := ⟨("_law_draw", none), "_law_draw", "_law_draw", defArgs s_law_draw, defBody s_law_draw, defScope s_law_draw, [], []⟩
def q_law_among : He.DefD := ⟨("_law_among", none), "_law_among", "_law_among", defArgs s_law_among, defBody s_law_among, defScope s_law_among, [], []⟩
def q_law_road : He.DefD := ⟨("_law_road", none), "_law_road", "_law_road", defArgs s_law_road, defBody s_law_road, defScope s_law_road, [], []⟩
def q_law_eyes : He.DefD := ⟨("_law_eyes", none), "_law_eyes", "_law_eyes", defArgs s_law_eyes, defBody s_law_eyes, defScope s_law_eyes, [], []⟩
def q_law_thing : He.DefD := ⟨("_law_thing", none), "_law_thing", "_law_thing", defArgs s_law_thing, defBody s_law_thing, defScope s_law_thing, [], []⟩
def q_law_deal : He.DefD := ⟨("_law_deal", none), "_law_deal", "_law_deal", defArgs s_law_deal, defBody s_law_deal, defScope s_law_deal, [], []⟩
def q_law_object : He.DefD := ⟨("_law_object", none), "_law_object", "_law_object", defArgs s_law_object, defBody s_law_object, defScope s_law_object, [], []⟩
def q_law_made : He.DefD := ⟨("_law_made", none), "_law_made", "_law_made", defArgs s_law_made, defBody s_law_made, defScope s_law_made, [], []⟩
def q_law_few : He.DefD := ⟨("_law_few", none), "_law_few", "_law_few", defArgs s_law_few, defBody s_law_few, defScope s_law_few, [], []⟩
def q_law_spots : He.DefD := ⟨("_law_spots", none), "_law_spots", "_law_spots", defArgs s_law_spots, defBody s_law_spots, defScope s_law_spots, [], []⟩
def q_law_asked : He.DefD := ⟨("_law_asked", none), "_law_asked", "_law_asked", defArgs s_law_asked, defBody s_law_asked, defScope s_law_asked, [], []⟩
def q_law_low : He.DefD := ⟨("_law_low", none), "_law_low", "_law_low", defArgs s_law_low, defBody s_law_low, defScope s_law_low, [], []⟩
def q_law_gones : He.DefD := ⟨("_law_gones", none), "_law_gones", "_law_gones", defArgs s_law_gones, defBody s_law_gones, defScope s_law_gones, [], []⟩
def q_law_tops : He.DefD := ⟨("_law_tops", none), "_law_tops", "_law_tops", defArgs s_law_tops, defBody s_law_tops, defScope s_law_tops, [], []⟩
def q_law_way_rises : He.DefD := ⟨("_law_way_rises", none), "_law_way_rises", "_law_way_rises", defArgs s_law_way_rises, defBody s_law_way_rises, defScope s_law_way_rises, [], []⟩
def q_law_all_rise : He.DefD := ⟨("_law_all_rise", none), "_law_all_rise", "_law_all_rise", defArgs s_law_all_rise, defBody s_law_all_rise, defScope s_law_all_rise, [], []⟩
def q_law_told_round : He.DefD := ⟨("_law_told_round", none), "_law_told_round", "_law_told_round", defArgs s_law_told_round, defBody s_law_told_round, defScope s_law_told_round, [], []⟩
def q_law_cases : He.DefD := ⟨("_law_cases", none), "_law_cases", "_law_cases", defArgs s_law_cases, defBody s_law_cases, defScope s_law_cases, [], []⟩
def q_law_right : He.DefD := ⟨("_law_right", none), "_law_right", "_law_right", defArgs s_law_right, defBody s_law_right, defScope s_law_right, [], []⟩
def q_law : He.DefD := ⟨("law", none), "law", "law", defArgs s_law, defBody s_law, defScope s_law, [], []⟩
def fns0 : List He.DefD := [q_is_integer, q_is_list, q_is_width, q_is_bits, q_is_name, q_is_address, q_want_width, q_want_address, q_size_of, q_begin_of, q_address_of, q_cell_rows, q_last_hop, q_is_way, q_want_head, q_want_members, q_Item_init, q_Item_way, q_Item_sees, q_Item_eq]
def fns1 : List He.DefD := [q_Gatherer_members, q_want_items, q_is_right_member, q_want_gathered, q_hops_of, q_want_few, q_Gathered_init, q_Gathered_hops, q_Gathered_leaves, q_Gathered_gatherers, q_Gathered_getitem, q_Gathered_contains, q_Gathered_cells, q_Gathered_want_gatherer, q_Gathered_with_other, q_Gathered_with_hole, q_Gathered_without_hole, q_Gathered_eq, q_Gathered_want_withdrawn, q_Gathered_want_hop]
def fns2 : List He.DefD := [q_Gathered_want_question, q_Gathered_sent_by, q_Gathered_way, q_Gathered_end, q_stretch_length, q_standing_names, q_does_lack, q_item_for, q_step_under, q_way_under, q_all_withdrawn, q_all_standing, q_full_cells, q_ring_from, q_first_ring, q_is_safe, q_round_paper, q_law_pot, q_law_draw, q_law_among]
def fns3 : List He.DefD := [q_law_road, q_law_eyes, q_law_thing, q_law_deal, q_law_object, q_law_made, q_law_few, q_law_spots, q_law_asked, q_law_low, q_law_gones, q_law_tops, q_law_way_rises, q_law_all_rise, q_law_told_round, q_law_cases, q_law_right, q_law]
def fns : List He.DefD := fns0 ++ fns1 ++ fns2 ++ fns3
/-! ### a part of the heap: the module's names, the classes' own names, codes, defaults, closures -/
def refsF (o : Obj) : List Addr := match o.data with
  | .func fd => He.refV fd.code ++ (He.refV fd.defaults ++ fd.closure.map (·.2))
  | _ => []
def getL (g : Addr → Option Obj) (f : Obj → List Addr) (a : Addr) : List Addr := match g a with
  | some o => f o
  | none => []
def valsO (o : Obj) : List Addr := match o.data with
  | .dict es _ => es.toList.flatMap fun e => He.refV e.val
  | _ => []
def moreO (g : Addr → Option Obj) (o : Obj) : List Addr := match o.data with
  | .func _ => refsF o
  | .cls cd => cd.ns :: getL g (fun n => (valsO n).flatMap fun m => m :: getL g refsF m) cd.ns
  | _ => []
def refAt (g : Addr → Option Obj) (x : Str) : List Addr := match PySem.W.nsIn (He.frG g [mainGlobals]) mainGlobals x with
  | some (some v) => He.refV v
  | _ => []
def topL (g : Addr → Option Obj) : List Addr := gls.flatMap (refAt g)
def asC (g : Addr → Option Obj) : List Addr := mainGlobals :: cStatics :: (topL g ++ (topL g).flatMap (getL g (moreO g)))
def fragC (g : Addr → Option Obj) : PySem.W.Frag := He.frG g (asC g)
/-! ### facts -/
def kMeth (C m D : Str) (K : PySem.W.Frag) : Bool := He.eqO (PySem.W.findIn K (.ref (He.ga K C)) m) (some (some (.ref (He.ma K (He.ga K D) m)))) && (PySem.W.isFn K (.ref (He.ma K (He.ga K D) m)) && PySem.W.keepIn K (.ref (He.ma K (He.ga K D) m)))
def kIns (C : Str) (K : PySem.W.Frag) : Bool := (He.Fa.cls C).ok K && (He.eqO (PySem.W.findIn K (.ref (He.ga K C)) "__class__") (some (some (.builtin "object.__class__"))) && (He.eqO (PySem.W.specialIn K (.builtin "object.__class__") "__get__") (some (some (.builtin "getset_descriptor.__get__"))) &&
  (decide (PySem.W.takesIn K (.builtin "object.__class__") = some true) && (decide (PySem.W.mroIn K (He.ga K C) (.type "object") = some true) && decide (PySem.W.kitOne K (.ref (He.ga K C)) (.ref (He.ga K C)) = some true)))))
def kWord (C w : Str) (K : PySem.W.Frag) : Bool := match PySem.W.findIn K (.ref (He.ga K C)) "WORD" with
  | some (some u) => He.relB (.str w) u && (He.eqO (PySem.W.specialIn K u "__get__") (some none) && decide (PySem.W.copiedNames.contains "WORD" = false))
  | _ => false
def kKit (x y : Str) (b : Bool) (K : PySem.W.Frag) : Bool := decide (PySem.W.kitOne K (.ref (He.ga K x)) (.ref (He.ga K y)) = some b)
def kMk (C D : Str) (K : PySem.W.Frag) : Bool := PySem.W.makesIn K (He.ga K C) && (He.eqO (PySem.W.findIn K (.ref (He.ga K C)) "__init__") (some (some (.ref (He.ma K (He.ga K D) "__init__")))) && (PySem.W.isFn K (.ref (He.ma K (He.ga K D) "__init__")) && PySem.W.keepIn K (.ref (He.ga K C))))
def kItem (C : Str) (K : PySem.W.Frag) : Bool := kIns C K && ((flds.all fun f => (He.Fa.noat C f).ok K) && (kMeth C "way" "Item" K && (kMeth C "sees" "Item" K && (kMeth C "__eq__" "Item" K && (kWord C C K && kKit C "Item" true K)))))
abbrev gIn (K : PySem.W.Frag) : Addr := He.ma K (He.ga K "Gatherer") "__init__"
abbrev iIn (K : PySem.W.Frag) : Addr := He.ma K (He.ga K "Item") "__init__"
def kGini (file : Str) (K : PySem.W.Frag) : Bool := match K.lookup (gIn K) with
  | some ⟨_, _, .func fd, _⟩ => PySem.W.codeIn K fd.code "Gatherer.__init__" && (He.dflB K fd.defaults [.non] && ((match fd.code with
    | .ref cda => (match K.lookup cda with
      | some ⟨_, _, .fields vs, _⟩ => (match (vs[2]? : Option Value) with
        | some (.str f _) => file == f
        | _ => false)
      | _ => false)
    | _ => false) && (match fd.closure with
    | [(_, cc)] => (match K.lookup cc with
      | some ⟨_, _, .cell (some (.ref d)), _⟩ => decide (d = He.ga K "Gatherer")
      | _ => false)
    | _ => false)))
  | _ => false
abbrev FnG : Type := Option (Str × Str × Arguments × FuncBody × Scope × Addr × List Str × Addr)
def fnG (K : PySem.W.Frag) : FnG := match K.lookup (gIn K) with
  | some ⟨_, _, .func fd, _⟩ => some (fd.name, fd.qualname, fd.params, fd.body, fd.scope, fd.globals, fd.closure.map (·.1), fd.builtins)
  | _ => none
def valG : FnG := some ("__init__", "Gatherer.__init__", defArgs s_Gatherer_init, .stmts (defBody s_Gatherer_init), defScope s_Gatherer_init, mainGlobals, ["__class__"], builtinsNs)
abbrev theP : Program := PySem.Challenge.pw_coverways_k65_whole_lengths_never_fall
def ck0 (K : PySem.W.Frag) : Bool := gls.all fun x => (He.Fa.glo x).ok K
def ck1 (K : PySem.W.Frag) : Bool := (frs.all fun x => (He.Fa.free x).ok K) && ((tIns.all fun p => (He.Fa.int p.1 p.2).ok K) && ((He.Fa.str "LETTERS" "abcdefghijklmnopqrstuvwxyz").ok K &&
  (He.tupB K "KEPT_WORDS" [.str "home", .str "hole", .str "ring", .str "all", .str "none"] && He.tupB K "ENDS" [.str "home", .str "hole"])))
def ck2 (K : PySem.W.Frag) : Bool := kItem "Leaf" K && (kItem "Gatherer" K && kItem "Closed" K)
def ck3 (K : PySem.W.Frag) : Bool := (kits.all fun p => kKit p.1 p.2.1 p.2.2 K) && (kMk "Leaf" "Item" K && (kMk "Gatherer" "Gatherer" K && (kMk "Closed" "Gatherer" K && (kMeth "Gatherer" "members" "Gatherer" K && kMeth "Closed" "members" "Gatherer" K))))
def ck4 (K : PySem.W.Frag) : Bool := kIns "Gathered" K && ((gflds.all fun f => (He.Fa.noat "Gathered" f).ok K) && (kMk "Gathered" "Gathered" K && gms.all fun m => kMeth "Gathered" m "Gathered" K))
def ck5 (K : PySem.W.Frag) : Bool := kGini theP.main.file K && (PySem.W.keepIn K (.ref (gIn K)) && ((PySem.W.clsIn K (He.ga K "Gatherer")).isSome && (decide (PySem.W.mroIn K (He.ga K "Gatherer") (.ref (He.ga K "Gatherer")) = some true) && (decide (PySem.W.mroIn K (He.ga K "Closed") (.ref (He.ga K "Gatherer")) = some true) &&
  (He.eqO (PySem.W.ks_superIn K (He.ga K "Gatherer") (He.ga K "Gatherer") "__init__") (some (some (.ref (iIn K)))) && (He.eqO (PySem.W.ks_superIn K (He.ga K "Closed") (He.ga K "Gatherer") "__init__") (some (some (.ref (iIn K)))) &&
  (decide (PySem.W.typeIn K (.ref (iIn K)) = some (.type "function")) && He.eqO (PySem.W.nsIn K cStatics "thirdparty.any") (some none))))))))
def ckA (K : PySem.W.Frag) : Bool := ck0 K && (ck1 K && (ck2 K && (ck3 K && (ck4 K && ck5 K))))
/-! ### the Hook -/
abbrev AlC : Type := Bool × FnG × He.AlD
def obsC (K : PySem.W.Frag) : AlC := (ckA K, fnG K, He.obsD [] fns K)
def valC : AlC := (true, valG, He.valD fns)
def obsCG (g : Addr → Option Obj) : AlC := obsC (fragC g)
def hookC : PySem.W.Hook where
  α := AlC
  obs := fun s => obsCG s.heap.get?
  val := fun _ => valC
  says := fun _ h => ∃ K : PySem.W.Frag, K.In h ∧ obsC K = valC
  of := fun _ _ e => ⟨_, He.frG_in, e⟩
  keeps := fun _ _ _ ⟨K, hK, c⟩ k => ⟨K, PySem.W.Frag.In.keeps hK k, c⟩
def obC (s : PySem.W.SharedT) : AlC := obsCG (HandSHeadRun.getT s)
theorem obC_eq (s : PySem.W.SharedT) : obC s = hookC.obs s.abs := by
  have e : HandSHeadRun.getT s = s.abs.heap.get? := funext fun a => HandSHeadRun.getT_eq s a
  show obsCG (HandSHeadRun.getT s) = obsCG s.abs.heap.get?
  rw [e]
abbrev RR : PySem.W.OpenRow := PySem.W.OpenLaw.row PySem.Challenge.rw_coverways_k65_whole_lengths_never_fall
abbrev qv : Program := PySem.W.view RR.prog [96]
def loose0 : List PySem.Str := ["CoverError", "InvalidWidth", "InvalidStretch", "InvalidAddress", "InvalidName", "InvalidHop", "InvalidWay", "InvalidMembers", "InvalidItems", "InvalidWithdrawn", "MissingError", "UnknownHop", "UnknownItem", "StateError", "WrongMember", "LimitError", "TooMany", "MOST_WIDTH", "LETTERS", "LONGEST_NAME", "HOME", "HOLE", "KEPT_WORDS", "is_integer", "is_list", "is_width", "is_bits", "is_name", "is_address", "want_width"]
def loose1 : List PySem.Str := ["want_address", "size_of", "begin_of", "address_of", "cell_rows", "LONGEST", "last_hop", "is_way", "want_head", "want_members", "shown", "Item", "Leaf", "Gatherer", "Holed", "Closed", "MOST_HOPS", "MOST_LEAVES", "MOST_GATHERERS", "MOST_NESTED", "ENDS", "want_items", "is_right_member", "want_gathered", "hops_of", "want_few", "Gathered", "stretch_length", "standing_names", "does_lack"]
def loose2 : List PySem.Str := ["item_for", "step_under", "way_under", "all_withdrawn", "all_standing", "full_cells", "ring_from", "first_ring", "is_safe", "round_paper", "_law_pot", "_law_draw", "_law_among", "_law_road", "_law_eyes", "_law_thing", "_law_deal", "_law_object", "_law_made", "_law_few", "_law_spots", "_law_asked", "_law_low", "_law_gones", "_law_tops", "_law_way_rises", "_law_all_rise", "_law_told_round", "_law_cases", "_law_right"]
def loose : List PySem.Str := loose0 ++ loose1 ++ loose2
/-! ### the run, once for each thing that is looked at -/
open PySem.W HandSHeadRun in
theorem runL (w : World) : ∀ os : OsState, (endF (stepQ (denQ tabQ) RR.prog w) 9000 RR.prog w os).map (fun s => looksF RR.prog (boot_heap w.params) s.abs) = some true := by
  intro os
  kernel_rfl
open PySem.W HandSHeadRun in
theorem runS (w : World) : ∀ os : OsState, (endF (stepQ (denQ tabQ) RR.prog w) 9000 RR.prog w os).map (fun s => seenQ qv loose (importedModules RR.prog.main.body) (fun s => xlAt qv [] s && recOk RR.toRowW.records s) s.abs) = some (openGood qv loose) := by
  intro os
  kernel_rfl
open PySem.W HandSHeadRun in
theorem runA (w : World) : ∀ os : OsState, (endF (stepQ (denQ tabQ) RR.prog w) 9000 RR.prog w os).map (fun s => (ckA (fragC (getT s)), fnG (fragC (getT s)))) = some (true, valG) := by
  intro os
  kernel_rfl
open PySem.W HandSHeadRun in
theorem runD (w : World) : ∀ os : OsState, (endF (stepQ (denQ tabQ) RR.prog w) 9000 RR.prog w os).map (fun s => He.obsD [] fns (fragC (getT s))) = some (He.valD fns) := by
  intro os
  kernel_rfl
theorem map4 {α β γ δ ε ζ : Type} {o : Option α} {f : α → β} {g : α → γ} {h : α → δ × ε} {k : α → ζ} {a : β} {b : γ} {c : δ} {d : ε} {e : ζ} (h1 : o.map f = some a) (h2 : o.map g = some b) (h3 : o.map h = some (c, d)) (h4 : o.map k = some e) :
    o.map (fun s => (f s, g s, ((h s).1, (h s).2, k s))) = some (a, b, (c, d, e)) := by
  cases o with
  | none => cases h1
  | some s =>
    rw [Option.map_some] at h1 h2 h3 h4 ⊢
    rw [Option.some.inj h1, Option.some.inj h2, Option.some.inj h3, Option.some.inj h4]
theorem runAll (w : World) : HandSHeadRun.RunEq RR qv hookC obC 9000 loose w := fun os => map4 (runL w os) (runS w os) (runA w os) (runD w os)
end Cw

/-! CwNet -/
set_option linter.all false
set_option Elab.async false
/-! Nets of items: who stands, which item sends, steps, rings. Plain Lean. -/
namespace Cw
open PySem

/-- k: 0 a leaf, 1 an open gatherer, 2 a closed one; rk: how far a hop is from the keeper (a ghost) -/
structure Item where
  k : Nat
  nm : Str
  st : Str
  kp : Str
  wy : List (Str × Str)
  mb : List Str
  rk : Str → Nat

def keys (w : List (Str × Str)) : List Str := w.map (·.1)
def pre (b a : Str) : Prop := b.cps.toList <+: a.cps.toList
def sees (it : Item) (h : Str) : Prop := h ∈ keys it.wy ∨ h = it.kp
def lack (it : Item) (h : Str) : Prop := it.kp = h ∧ it.k = 1
def sHome : Str := "home"
def sHole : Str := "hole"
def isEnd (x : Str) : Prop := x = sHome ∨ x = sHole

structure WayOk (it : Item) : Prop where
  nd : (keys it.wy).Nodup
  kp : it.kp ∉ keys it.wy
  rk0 : it.rk it.kp = 0
  dn : ∀ p ∈ it.wy, it.rk p.2 < it.rk p.1
  le : ∀ p ∈ it.wy, it.rk p.1 ≤ it.wy.length
  val : ∀ p ∈ it.wy, p.2 = it.kp ∨ p.2 ∈ keys it.wy
  few : it.wy.length ≤ 5

inductive Stands (its : List Item) (wd : List Str) : Str → Prop where
  | leaf (it : Item) : it ∈ its → it.k = 0 → it.nm ∉ wd → Stands its wd it.nm
  | gath (it : Item) (m : Str) : it ∈ its → it.k ≠ 0 → m ∈ it.mb → Stands its wd m → Stands its wd it.nm

def cand (its : List Item) (wd : List Str) (a h : Str) (it : Item) : Prop := (Stands its wd it.nm ∧ pre it.st a ∧ sees it h) ∧ ¬ lack it h

open Classical in
noncomputable def bestGo (c : Item → Prop) (b : Option Item) (it : Item) : Option Item :=
  if c it ∧ (∀ x, b = some x → x.st.length < it.st.length) then some it else b
noncomputable def best (c : Item → Prop) (its : List Item) : Option Item := its.foldl (bestGo c) none

open Classical in
noncomputable def goal (o : Option Item) (h : Str) : Str := match o with
  | none => sHole
  | some it => if it.kp = h then (if it.k = 0 then sHome else sHole) else (it.wy.lookup h).getD sHole
noncomputable def step (its : List Item) (wd : List Str) (a h : Str) : Str := goal (best (cand its wd a h) its) h

def BestOk (c : Item → Prop) (its : List Item) : Option Item → Prop
  | none => ∀ it ∈ its, ¬ c it
  | some b => b ∈ its ∧ c b ∧ ∀ it ∈ its, c it → it.st.length ≤ b.st.length

theorem bestGo_ok {c : Item → Prop} {its : List Item} {b : Option Item} {x : Item} (h : BestOk c its b) : BestOk c (its ++ [x]) (bestGo c b x) := by
  unfold bestGo
  split
  · rename_i hc
    obtain ⟨h1, h2⟩ := hc
    refine ⟨by simp, h1, fun it hi hci => ?_⟩
    rcases List.mem_append.mp hi with hi | hi
    · cases b with
      | none => exact absurd hci (h it hi)
      | some y =>
        have l1 := h.2.2 it hi hci
        have l2 := h2 y rfl
        omega
    · have e : it = x := by simpa using hi
      subst e
      exact Nat.le_refl _
  · rename_i hc
    cases b with
    | none =>
      intro it hi hci
      rcases List.mem_append.mp hi with hi | hi
      · exact h it hi hci
      · have e : it = x := by simpa using hi
        subst e
        exact hc ⟨hci, fun y q => nomatch q⟩
    | some y =>
      obtain ⟨h1, h2, h3⟩ := h
      refine ⟨List.mem_append_left _ h1, h2, fun it hi hci => ?_⟩
      rcases List.mem_append.mp hi with hi | hi
      · exact h3 it hi hci
      · have e : it = x := by simpa using hi
        subst e
        rcases Nat.lt_or_ge y.st.length it.st.length with l | l
        · exact absurd ⟨hci, fun z q => by cases q; exact l⟩ hc
        · exact l
theorem best_take {c : Item → Prop} {its : List Item} : ∀ (n : Nat), BestOk c (its.take n) ((its.take n).foldl (bestGo c) none) := by
  intro n
  induction n with
  | zero => intro it hi; simp at hi
  | succ n ih =>
    rw [List.take_succ]
    cases e : its[n]? with
    | none => simpa using ih
    | some x =>
      have := bestGo_ok (x := x) ih
      simpa [List.foldl_append] using this
theorem best_ok (c : Item → Prop) (its : List Item) : BestOk c its (best c its) := by
  have h := best_take (c := c) (its := its) its.length
  rw [List.take_length] at h
  exact h

theorem pre_eq {x y a : Str} (hx : pre x a) (hy : pre y a) (l : x.length = y.length) : x = y := by
  have lx : x.cps.toList.length = y.cps.toList.length := by simpa [Str.length] using l
  have h1 := List.prefix_iff_eq_take.mp hx
  have h2 := List.prefix_iff_eq_take.mp hy
  rw [lx] at h1
  have e : x.cps.toList = y.cps.toList := h1.trans h2.symm
  cases x; cases y
  simp only [Str.mk.injEq]
  exact Array.toList_inj.mp e
theorem pre_le {x y a : Str} (hx : pre x a) (hy : pre y a) (l : x.length ≤ y.length) : pre x y :=
  List.prefix_of_prefix_length_le hx hy (by simpa [Str.length] using l)
theorem pre_refl (x : Str) : pre x x := List.prefix_rfl
theorem pre_trans {x y z : Str} (h : pre x y) (g : pre y z) : pre x z := List.IsPrefix.trans h g
theorem pre_len {x y : Str} (h : pre x y) : x.length ≤ y.length := by
  have := h.length_le
  simpa [Str.length] using this

/-- unlike stretches -/
def Uniq (its : List Item) : Prop := ∀ x ∈ its, ∀ y ∈ its, x.st = y.st → x = y
theorem best_uniq {its : List Item} (u : Uniq its) {wd : List Str} {a h : Str} {x : Item} (hx : x ∈ its) (cx : cand its wd a h x) (mx : ∀ it ∈ its, cand its wd a h it → it.st.length ≤ x.st.length) :
    best (cand its wd a h) its = some x := by
  have q := best_ok (cand its wd a h) its
  cases e : best (cand its wd a h) its with
  | none => rw [e] at q; exact absurd cx (q x hx)
  | some b =>
    rw [e] at q
    obtain ⟨q1, q2, q3⟩ := q
    have l1 := q3 x hx cx
    have l2 := mx b q1 q2
    rw [u b q1 x hx (pre_eq q2.1.2.1 cx.1.2.1 (by omega))]

/-! ### walks and rings -/
def iter (f : Str → Str) : Nat → Str → Str
  | 0, h => h
  | n + 1, h => f (iter f n h)
def Rings (f : Str → Str) (h : Str) : Prop := ∀ n, ¬ isEnd (f (iter f n h))
theorem rings_mono {f g : Str → Str} {h : Str} (hf : ∀ x, g x = f x ∨ isEnd (g x)) (r : Rings g h) : Rings f h := by
  have e : ∀ n, iter f n h = iter g n h := by
    intro n
    induction n with
    | zero => rfl
    | succ n ih =>
      show f (iter f n h) = g (iter g n h)
      rw [ih]
      rcases hf (iter g n h) with q | q
      · exact q.symm
      · exact absurd q (r n)
  intro n
  rw [e n]
  rcases hf (iter g n h) with q | q
  · rw [← q]; exact r n
  · exact absurd q (r n)
theorem no_rings {f : Str → Str} (m : Str → Nat) (hm : ∀ x, ¬ isEnd (f x) → m (f x) < m x) (h : Str) : ¬ Rings f h := by
  intro r
  have k : ∀ n, m (iter f n h) + n ≤ m h := by
    intro n
    induction n with
    | zero => exact Nat.le_refl _
    | succ n ih =>
      have := hm (iter f n h) (r n)
      show m (f (iter f n h)) + (n + 1) ≤ m h
      omega
  have := k (m h + 1)
  omega
/-- a way: each hop leads to the next -/
def Chain (f : Str → Str) : List Str → Prop
  | [] => True
  | [_] => True
  | x :: y :: r => f x = y ∧ ¬ isEnd y ∧ Chain f (y :: r)
theorem chain_snoc {f : Str → Str} : ∀ {w : List Str} {x y : Str}, Chain f w → w.getLast? = some x → f x = y → ¬ isEnd y → Chain f (w ++ [y])
  | [], _, _, _, h, _, _ => by simp at h
  | [a], x, y, _, h, e, n => by
    have : a = x := by simpa using h
    subst this
    exact ⟨e, n, trivial⟩
  | a :: b :: r, x, y, c, h, e, n => by
    refine ⟨c.1, c.2.1, ?_⟩
    exact chain_snoc (w := b :: r) c.2.2 (by simpa [List.getLast?_cons_cons] using h) e n
theorem chain_iter {f : Str → Str} : ∀ {w : List Str} {h : Str} {i : Nat} {x : Str}, Chain f (h :: w) → (h :: w)[i]? = some x → iter f i h = x := by
  have sh : ∀ (f : Str → Str) n h, iter f (n + 1) h = iter f n (f h) := by
    intro f n h
    induction n with
    | zero => rfl
    | succ n ih => show f (iter f (n + 1) h) = f (iter f n (f h)); rw [ih]
  intro w
  induction w with
  | nil =>
    intro h i x _ e
    cases i with
    | zero => simpa [iter] using e
    | succ i => simp at e
  | cons y r ih =>
    intro h i x c e
    cases i with
    | zero => simpa [iter] using e
    | succ i =>
      rw [sh, c.1]
      exact ih c.2.2 (by simpa using e)
theorem chain_next {f : Str → Str} : ∀ {w : List Str} {x : Str}, Chain f w → x ∈ w → w.getLast? = some x ∨ (f x ∈ w ∧ ¬ isEnd (f x))
  | [], _, _, h => by simp at h
  | [a], x, _, h => by
    have : x = a := by simpa using h
    subst this
    exact .inl rfl
  | a :: b :: r, x, c, h => by
    rcases List.mem_cons.mp h with e | h
    · subst e
      exact .inr ⟨by rw [c.1]; simp, by rw [c.1]; exact c.2.1⟩
    · rcases chain_next (w := b :: r) c.2.2 h with q | q
      · exact .inl (by simpa [List.getLast?_cons_cons] using q)
      · exact .inr ⟨List.mem_cons_of_mem _ q.1, q.2⟩
theorem ring_of {f : Str → Str} {w : List Str} {h x t : Str} (c : Chain f w) (hh : h ∈ w) (hl : w.getLast? = some x) (e : f x = t) (ht : t ∈ w) (hn : ¬ isEnd t) : Rings f h := by
  have st : ∀ y ∈ w, f y ∈ w ∧ ¬ isEnd (f y) := by
    intro y hy
    rcases chain_next c hy with q | q
    · rw [hl] at q
      cases q
      rw [e]
      exact ⟨ht, hn⟩
    · exact q
  have all : ∀ n, iter f n h ∈ w := by
    intro n
    induction n with
    | zero => exact hh
    | succ n ih => exact (st _ ih).1
  exact fun n => (st _ (all n)).2
theorem noring_of {f : Str → Str} {w : List Str} {h x : Str} (c : Chain f (h :: w)) (hl : (h :: w).getLast? = some x) (he : isEnd (f x)) : ¬ Rings f h := by
  intro r
  have hx : (h :: w)[w.length]? = some x := by
    rw [List.getLast?_eq_getElem?] at hl
    simpa using hl
  have e := chain_iter c hx
  have := r w.length
  rw [e] at this
  exact this he

/-! ### nets without open gatherers -/
def RingFree (its : List Item) (wd : List Str) (a : Str) : Prop := ∀ h, ¬ Rings (step its wd a) h
def isBits (z : Str) : Prop := ∀ c ∈ z.cps.toList, c = 48 ∨ c = 49
def IsAd (w : Nat) (a : Str) : Prop := isBits a ∧ a.length = w
/-- no address rings, whatever is withdrawn -/
def Safe (its : List Item) (w : Nat) : Prop := ∀ wd a, IsAd w a → ∀ h, ¬ Rings (step its wd a) h

theorem lookup_mem {w : List (Str × Str)} {h : Str} (hh : h ∈ keys w) : ∃ y, w.lookup h = some y ∧ (h, y) ∈ w := by
  induction w with
  | nil => simp [keys] at hh
  | cons p r ih =>
    obtain ⟨k, v⟩ := p
    by_cases e : h = k
    · subst e
      exact ⟨v, by simp [List.lookup], by simp⟩
    · have : h ∈ keys r := by
        simp only [keys, List.map_cons, List.mem_cons] at hh
        rcases hh with q | q
        · exact absurd q e
        · exact q
      obtain ⟨y, e1, e2⟩ := ih this
      refine ⟨y, ?_, List.mem_cons_of_mem _ e2⟩
      have : (h == k) = false := by simpa using e
      simp [List.lookup, this, e1]
/-- where a hop sends on, the next one sees the item -/
theorem step_on {its : List Item} {wd : List Str} {a h : Str} (hw : ∀ it ∈ its, WayOk it) (hn : ¬ isEnd (step its wd a h)) :
    ∃ it, it ∈ its ∧ best (cand its wd a h) its = some it ∧ cand its wd a h it ∧ it.kp ≠ h ∧ (h, step its wd a h) ∈ it.wy := by
  have q := best_ok (cand its wd a h) its
  unfold step at hn ⊢
  cases e : best (cand its wd a h) its with
  | none => rw [e] at hn; exact absurd (Or.inr rfl) hn
  | some it =>
    rw [e] at hn q
    obtain ⟨q1, q2, q3⟩ := q
    have ne : it.kp ≠ h := by
      intro z
      apply hn
      unfold goal
      simp only [z, if_true]
      split
      · exact Or.inl rfl
      · exact Or.inr rfl
    have hk : h ∈ keys it.wy := by
      rcases q2.1.2.2 with z | z
      · exact z
      · exact absurd z.symm ne
    obtain ⟨y, e1, e2⟩ := lookup_mem hk
    refine ⟨it, q1, rfl, q2, ne, ?_⟩
    unfold goal
    simp only [if_neg ne, e1, Option.getD_some]
    exact e2
theorem sees_next {it : Item} {h y : Str} (hw : WayOk it) (hp : (h, y) ∈ it.wy) : sees it y := by
  rcases hw.val _ hp with z | z
  · exact .inr z
  · exact .inl z
/-- .. without open gatherers its item is at least as long -/
theorem step_len {its : List Item} {wd : List Str} {a h : Str} (hw : ∀ it ∈ its, WayOk it) (shut : ∀ it ∈ its, it.k ≠ 1) (hn : ¬ isEnd (step its wd a h)) :
    ∃ it it', best (cand its wd a h) its = some it ∧ best (cand its wd a (step its wd a h)) its = some it' ∧ it.st.length ≤ it'.st.length ∧ it ∈ its ∧ it' ∈ its ∧ cand its wd a h it ∧ cand its wd a (step its wd a h) it' ∧ (h, step its wd a h) ∈ it.wy := by
  obtain ⟨it, h1, h2, h3, h4, h5⟩ := step_on hw hn
  have c' : cand its wd a (step its wd a h) it := ⟨⟨h3.1.1, h3.1.2.1, sees_next (hw it h1) h5⟩, fun z => shut it h1 z.2⟩
  have q := best_ok (cand its wd a (step its wd a h)) its
  cases e : best (cand its wd a (step its wd a h)) its with
  | none => rw [e] at q; exact absurd c' (q it h1)
  | some it' =>
    rw [e] at q
    exact ⟨it, it', h2, rfl, q.2.2 it h1 c', h1, q.1, h3, q.2.1, h5⟩
open Classical in
noncomputable def rank (its : List Item) (wd : List Str) (a : Str) (x : Str) : Nat := match best (cand its wd a x) its with
  | none => 0
  | some it => (a.length + 1 - it.st.length) * 8 + it.rk x
theorem rank_falls {its : List Item} {wd : List Str} {a h : Str} (u : Uniq its) (hw : ∀ it ∈ its, WayOk it) (shut : ∀ it ∈ its, it.k ≠ 1) (hn : ¬ isEnd (step its wd a h)) :
    rank its wd a (step its wd a h) < rank its wd a h := by
  obtain ⟨it, it', e1, e2, l, m1, m2, c1, c2, hp⟩ := step_len hw shut hn
  unfold rank
  rw [e1, e2]
  show (a.length + 1 - it'.st.length) * 8 + it'.rk _ < (a.length + 1 - it.st.length) * 8 + it.rk h
  have l1 := pre_len c1.1.2.1
  have l2 := pre_len c2.1.2.1
  by_cases e : it.st.length = it'.st.length
  · have ee : it = it' := u it m1 it' m2 (pre_eq c1.1.2.1 c2.1.2.1 e)
    subst ee
    have := (hw it m1).dn _ hp
    simp only at this
    omega
  · have r' : it'.rk (step its wd a h) ≤ 5 := by
      rcases c2.1.2.2 with z | z
      · obtain ⟨y, _, z2⟩ := lookup_mem z
        have := (hw it' m2).le _ z2
        have := (hw it' m2).few
        simp only at *
        omega
      · rw [z, (hw it' m2).rk0]; omega
    omega
theorem shut_safe {its : List Item} (u : Uniq its) (hw : ∀ it ∈ its, WayOk it) (shut : ∀ it ∈ its, it.k ≠ 1) (wd : List Str) (a h : Str) : ¬ Rings (step its wd a) h :=
  no_rings (rank its wd a) (fun _ hn => rank_falls u hw shut hn) h

/-! ### a hole row more -/
def shutIt (n : Str) (it : Item) : Item := if it.nm = n then { it with k := 2 } else it
def openIt (n : Str) (it : Item) : Item := if it.nm = n then { it with k := 1 } else it
theorem shutIt_st (n : Str) (it : Item) : (shutIt n it).st = it.st := by unfold shutIt; split <;> rfl
theorem shutIt_nm (n : Str) (it : Item) : (shutIt n it).nm = it.nm := by unfold shutIt; split <;> rfl
theorem shutIt_kp (n : Str) (it : Item) : (shutIt n it).kp = it.kp := by unfold shutIt; split <;> rfl
theorem shutIt_wy (n : Str) (it : Item) : (shutIt n it).wy = it.wy := by unfold shutIt; split <;> rfl
theorem shutIt_mb (n : Str) (it : Item) : (shutIt n it).mb = it.mb := by unfold shutIt; split <;> rfl
theorem shutIt_rk (n : Str) (it : Item) : (shutIt n it).rk = it.rk := by unfold shutIt; split <;> rfl
/-- only gatherers bear the name -/
def Gath (n : Str) (its : List Item) : Prop := ∀ it ∈ its, it.nm = n → it.k ≠ 0
theorem shutIt_k0 {n : Str} {its : List Item} {it : Item} (g : Gath n its) (hi : it ∈ its) : (shutIt n it).k = 0 ↔ it.k = 0 := by
  unfold shutIt
  split
  · rename_i e
    have := g it hi e
    simp only
    omega
  · exact Iff.rfl
theorem stands_shut {n : Str} {its : List Item} {wd : List Str} {x : Str} (g : Gath n its) : Stands (its.map (shutIt n)) wd x ↔ Stands its wd x := by
  constructor
  · intro h
    induction h with
    | leaf it hi hk hn =>
      obtain ⟨y, hy, rfl⟩ := List.mem_map.mp hi
      rw [shutIt_nm] at hn ⊢
      exact .leaf y hy ((shutIt_k0 g hy).mp hk) hn
    | gath it m hi hk hm _ ih =>
      obtain ⟨y, hy, rfl⟩ := List.mem_map.mp hi
      rw [shutIt_nm]
      rw [shutIt_mb] at hm
      exact .gath y m hy (fun z => hk ((shutIt_k0 g hy).mpr z)) hm ih
  · intro h
    induction h with
    | leaf it hi hk hn =>
      have := Stands.leaf (its := its.map (shutIt n)) (wd := wd) (shutIt n it) (List.mem_map.mpr ⟨it, hi, rfl⟩) ((shutIt_k0 g hi).mpr hk) (by rw [shutIt_nm]; exact hn)
      rw [shutIt_nm] at this
      exact this
    | gath it m hi hk hm _ ih =>
      have := Stands.gath (its := its.map (shutIt n)) (wd := wd) (shutIt n it) m (List.mem_map.mpr ⟨it, hi, rfl⟩) (fun z => hk ((shutIt_k0 g hi).mp z)) (by rw [shutIt_mb]; exact hm) ih
      rw [shutIt_nm] at this
      exact this
theorem sees_shut {n h : Str} {it : Item} : sees (shutIt n it) h ↔ sees it h := by unfold sees; rw [shutIt_wy, shutIt_kp]
theorem cand_shut {n : Str} {its : List Item} {wd : List Str} {a h : Str} {it : Item} (g : Gath n its) :
    cand (its.map (shutIt n)) wd a h (shutIt n it) ↔ (Stands its wd it.nm ∧ pre it.st a ∧ sees it h) ∧ ¬ lack (shutIt n it) h := by
  unfold cand
  rw [stands_shut g, shutIt_nm, shutIt_st, sees_shut]
theorem step_shut {n : Str} {its : List Item} {wd : List Str} {a h : Str} (u : Uniq its) (g : Gath n its) :
    step (its.map (shutIt n)) wd a h = step its wd a h ∨ isEnd (step (its.map (shutIt n)) wd a h) := by
  have q := best_ok (cand (its.map (shutIt n)) wd a h) (its.map (shutIt n))
  unfold step
  cases e : best (cand (its.map (shutIt n)) wd a h) (its.map (shutIt n)) with
  | none => exact .inr (.inr rfl)
  | some b =>
    rw [e] at q
    obtain ⟨q1, q2, q3⟩ := q
    obtain ⟨x, hx, rfl⟩ := List.mem_map.mp q1
    by_cases hk : x.kp = h
    · refine .inr ?_
      unfold goal
      simp only [shutIt_kp, hk, if_true]
      split
      · exact .inl rfl
      · exact .inr rfl
    · refine .inl ?_
      have c := (cand_shut g).mp q2
      have cx : cand its wd a h x := ⟨c.1, fun z => hk z.1⟩
      have mx : ∀ it ∈ its, cand its wd a h it → it.st.length ≤ x.st.length := by
        intro it hi ci
        have c2 : cand (its.map (shutIt n)) wd a h (shutIt n it) := (cand_shut g).mpr ⟨ci.1, fun z => by
          unfold lack at z
          rw [shutIt_kp] at z
          refine ci.2 ⟨z.1, ?_⟩
          have z2 := z.2
          unfold shutIt at z2
          split at z2
          · simp at z2
          · exact z2⟩
        have := q3 (shutIt n it) (List.mem_map.mpr ⟨it, hi, rfl⟩) c2
        rw [shutIt_st, shutIt_st] at this
        exact this
      rw [best_uniq u hx cx mx]
      unfold goal
      simp only [shutIt_kp, shutIt_wy, if_neg hk]
theorem rings_shut {n : Str} {its : List Item} {wd : List Str} {a h : Str} (u : Uniq its) (g : Gath n its) (r : Rings (step (its.map (shutIt n)) wd a) h) : Rings (step its wd a) h :=
  rings_mono (fun _ => step_shut u g) r
theorem uniq_shut {n : Str} {its : List Item} (u : Uniq its) : Uniq (its.map (shutIt n)) := by
  intro x hx y hy e
  obtain ⟨x', hx', rfl⟩ := List.mem_map.mp hx
  obtain ⟨y', hy', rfl⟩ := List.mem_map.mp hy
  rw [shutIt_st, shutIt_st] at e
  rw [u x' hx' y' hy' e]
theorem way_shut {n : Str} {it : Item} (h : WayOk it) : WayOk (shutIt n it) := by
  unfold shutIt
  split
  · exact ⟨h.nd, h.kp, h.rk0, h.dn, h.le, h.val, h.few⟩
  · exact h
theorem safe_shut {n : Str} {its : List Item} {w : Nat} (u : Uniq its) (g : Gath n its) (s : Safe its w) : Safe (its.map (shutIt n)) w :=
  fun wd a ha h r => s wd a ha h (rings_shut u g r)

/-! ### what a step hangs on -/
theorem stands_wd {its : List Item} {wd wd' : List Str} (e : ∀ it ∈ its, it.k = 0 → (it.nm ∈ wd ↔ it.nm ∈ wd')) {x : Str} : Stands its wd x → Stands its wd' x := by
  intro h
  induction h with
  | leaf it hi hk hn => exact .leaf it hi hk fun z => hn ((e it hi hk).mpr z)
  | gath it m hi hk hm _ ih => exact .gath it m hi hk hm ih
theorem step_wd {its : List Item} {wd wd' : List Str} (e : ∀ it ∈ its, it.k = 0 → (it.nm ∈ wd ↔ it.nm ∈ wd')) (a : Str) : step its wd a = step its wd' a := by
  funext h
  have c : cand its wd a h = cand its wd' a h := by
    funext it
    have : Stands its wd it.nm ↔ Stands its wd' it.nm := ⟨stands_wd e, stands_wd fun it hi hk => (e it hi hk).symm⟩
    unfold cand
    rw [this]
  unfold step
  rw [c]
theorem best_congr {c c' : Item → Prop} {its : List Item} (e : ∀ it ∈ its, (c it ↔ c' it)) : best c its = best c' its := by
  unfold best
  have : ∀ (l : List Item) (b : Option Item), (∀ it ∈ l, (c it ↔ c' it)) → l.foldl (bestGo c) b = l.foldl (bestGo c') b := by
    intro l
    induction l with
    | nil => intro b _; rfl
    | cons x r ih =>
      intro b h
      have ex : bestGo c b x = bestGo c' b x := by
        have e2 : c x = c' x := propext (h x (by simp))
        unfold bestGo
        rw [e2]
      rw [List.foldl_cons, List.foldl_cons, ex]
      exact ih _ fun it hi => h it (List.mem_cons_of_mem _ hi)
  exact this its none e
theorem step_at {its : List Item} {wd : List Str} {a b : Str} (e : ∀ it ∈ its, (pre it.st a ↔ pre it.st b)) : step its wd a = step its wd b := by
  funext h
  unfold step
  rw [best_congr (c' := cand its wd b h)]
  intro it hi
  unfold cand
  rw [e it hi]
end Cw

/-! CwBase -/
set_option Elab.async false
set_option linter.all false
set_option maxRecDepth 100000
set_option maxHeartbeats 4000000
/-! Calls by promises, heaps that grow, comprehensions over data. -/
namespace Cw
open PySem PySem.Spec PyProof.Rows L2

/-! ### heaps -/
theorem same_upd {H : Hp} {p : Addr} {o : HO} (h : H p = none) : Same H (upd H p o) := fun b u e => by
  rw [upd_ne (ne_of_none e h)]; exact e
theorem same_mut {H H' : Hp} {p : Addr} {o : HO} (e : Same H H') (h : H p = none) : Same H (upd H' p o) := fun b u eb => by
  rw [upd_ne (ne_of_none eb h)]; exact e b u eb
theorem same_none {H H' : Hp} {p : Addr} (e : Same H H') (h : H' p = none) : H p = none := e.free h
/-- a new object, the heap behind it by what is true of it -/
theorem new_ {H : Hp} {o : HO} {R : Addr → Hp → Prop} (h : ∀ p H1, Same H H1 → H p = none → H1 p = some o → R p H1) : ∀ p, H p = none → R p (upd H p o) :=
  fun p np => h p _ (same_upd np) np upd_same
def off (D : Addr) (H : Hp) : Hp := fun b => if b = D then none else H b
theorem off_at {D : Addr} {H : Hp} : off D H D = none := by unfold off; rw [if_pos rfl]
theorem off_ne {D b : Addr} {H : Hp} (h : b ≠ D) : off D H b = H b := by unfold off; rw [if_neg h]
theorem off_le {D : Addr} {H : Hp} : Same (off D H) H := fun b o e => by
  by_cases h : b = D
  · rw [h, off_at] at e; cases e
  · rw [off_ne h] at e; exact e
theorem off_mono {D : Addr} {H H' : Hp} (e : Same H H') : Same (off D H) (off D H') := fun b o eb => by
  by_cases h : b = D
  · rw [h, off_at] at eb; cases eb
  · rw [off_ne h] at eb ⊢; exact e b o eb
theorem off_upd {D : Addr} {H : Hp} {o : HO} : off D (upd H D o) = off D H := by
  funext b
  by_cases h : b = D
  · rw [h, off_at, off_at]
  · rw [off_ne h, off_ne h, upd_ne h]
theorem same_off {D : Addr} {H H' : Hp} (e : Same H H') (h : H D = none) : Same H (off D H') := fun b o eb => by
  have hb : b ≠ D := ne_of_none eb h
  rw [off_ne hb]; exact e b o eb
theorem off_of {D b : Addr} {H : Hp} {o : HO} (h : H b = some o) (hb : b ≠ D) : off D H b = some o := by rw [off_ne hb]; exact h
/-- all but what M tells stands -/
def SameX (M : Addr → Prop) (H H' : Hp) : Prop := ∀ b o, ¬ M b → H b = some o → H' b = some o
theorem SameX.refl (M : Addr → Prop) (H : Hp) : SameX M H H := fun _ _ _ h => h
theorem SameX.trans {M : Addr → Prop} {H H1 H2 : Hp} (a : SameX M H H1) (b : SameX M H1 H2) : SameX M H H2 := fun c o n h => b c o n (a c o n h)
theorem SameX.of {M : Addr → Prop} {H H' : Hp} (a : Same H H') : SameX M H H' := fun c o _ h => a c o h
theorem SameX.mono {M M' : Addr → Prop} {H H' : Hp} (a : SameX M H H') (h : ∀ b, M b → M' b) : SameX M' H H' := fun c o n e => a c o (fun z => n (h c z)) e
theorem SameX.upd {M : Addr → Prop} {H H' : Hp} {p : Addr} {o : HO} (a : SameX M H H') (h : M p) : SameX M H (upd H' p o) := fun c u n e => by
  have hc : c ≠ p := fun z => n (by rw [z]; exact h)
  rw [upd_ne hc]; exact a c u n e
/-- knowledge that does not touch M stands -/
theorem SameX.keep {M : Addr → Prop} {G H H' : Hp} (a : SameX M H H') (e : Same G H) (h : ∀ b, M b → G b = none) : Same G H' := fun c o ec =>
  a c o (fun z => by rw [h c z] at ec; cases ec) (e c o ec)
theorem rd_same {H H' : Hp} {a : Addr} {u : HO} (e : Same H H') (h : Rd H a u) : Rd H' a u := h.elim (fun h => .inl (e _ _ h)) fun ⟨o, h⟩ => .inr ⟨o, e _ _ h⟩
theorem sqt_same {K : PySem.W.Frag} {H H' : Hp} {a : Addr} {xs : List V} (e : Same H H') (h : SqT K H a xs) : SqT K H' a xs := h.elim (fun h => .inl (rd_same e h)) .inr
theorem sql_same {K : PySem.W.Frag} {H H' : Hp} {a : Addr} {xs : List V} (e : Same H H') (h : SqL K H a xs) : SqL K H' a xs := e.seq h

/-! ### calls -/
section
variable {P : Program} {w : World} {K : PySem.W.Frag} {mg : Str → Option Value} {base : Heap}
theorem DefAt.cal {x qual : Str} {st : Stmt} {f : Addr} {N ps : List Str} {k : Nat} {sp : Sp} (D : DefAt K x qual st 0 f) (S : FnScope N ps (defScope st))
    (hb : ∀ (kV doc pm : Value) (an : Option Addr) (cdv ct : Value) (us : List Value), us.length = ps.length → bindArgs (PySem.W.fnOf x qual (defArgs st) (defBody st) (defScope st) .none kV doc pm an cdv ct) ⟨us, []⟩ = pure (ps.zip us))
    (len : ∀ vs H Q E, sp vs H Q E → vs.length = ps.length)
    (body : ∀ (cdv : Value) (A : Around) (outer : List Env) (s : Shared) (H : Hp) (vs : List V) (Q : VK) (E : XK), Room k (A.deeper (envOfC qual (defScope st) s.heap.objs.size f cdv)) → sp vs H Q E →
      ∃ t, PSs (cxOf CX0 P w K mg base N qual (defScope st) f cdv A outer s H E).nox (defBody st) t ∧ t { nx := fun _ H' => Q .non H', rt := Q } (start N vs) H) : Cal P w K mg base (k + 1) f ps sp := by
  obtain ⟨dvs, fd, hl, F⟩ := D
  have e : dvs = [] := List.length_eq_zero_iff.mp hl
  subst e
  refine ⟨fd, F.ok S len fun cdv A outer s H vs Q E hr h => ?_, F.bindsN hb, F.kp⟩
  obtain ⟨t, h1, h2⟩ := body cdv A outer s H vs Q E hr h
  exact ⟨t, h1.nox, h2⟩
/-- with defaults, all arguments written -/
theorem DefAt.cald {x qual : Str} {st : Stmt} {n : Nat} {f : Addr} {N ps : List Str} {k : Nat} {sp : Sp} (D : DefAt K x qual st n f) (hn : n ≠ 0) (S : FnScope N ps (defScope st))
    (hb : ∀ (T : Addr) (kV doc pm : Value) (an : Option Addr) (cdv ct : Value) (us its : List Value), us.length = ps.length → its.length = n →
      ∃ k, bindArgs (PySem.W.fnOf x qual (defArgs st) (defBody st) (defScope st) (.ref T) kV doc pm an cdv ct) ⟨us, []⟩ = seqItems? (.ref T) >>= k ∧ k (some its.toArray) = pure (ps.zip (us ++ its.drop n)))
    (len : ∀ vs H Q E, sp vs H Q E → vs.length = ps.length)
    (body : ∀ (cdv : Value) (A : Around) (outer : List Env) (s : Shared) (H : Hp) (vs : List V) (Q : VK) (E : XK), Room k (A.deeper (envOfC qual (defScope st) s.heap.objs.size f cdv)) → sp vs H Q E →
      ∃ t, PSs (cxOf CX0 P w K mg base N qual (defScope st) f cdv A outer s H E).nox (defBody st) t ∧ t { nx := fun _ H' => Q .non H', rt := Q } (start N vs) H) : Cal P w K mg base (k + 1) f ps sp := by
  obtain ⟨dvs, fd, hl, F⟩ := D
  subst hl
  have b : Binds K fd ps [] := by
    obtain ⟨ds, rd, b⟩ := F.binds1 ps.length dvs.length (fun z => hn (by rw [z]; rfl)) (by omega) hb
    have e : ds = [] := by
      have := rd.length
      rw [List.drop_length] at this
      exact List.length_eq_zero_iff.mp this.symm
    subst e
    exact b
  refine ⟨fd, F.ok S len fun cdv A outer s H vs Q E hr h => ?_, b, F.kp⟩
  obtain ⟨t, h1, h2⟩ := body cdv A outer s H vs Q E hr h
  exact ⟨t, h1.nox, h2⟩
theorem Cal.imp {k : Nat} {f : Addr} {ps : List Str} {sp sp' : Sp} (C : Cal P w K mg base k f ps sp) (h : ∀ vs H Q E, sp' vs H Q E → sp vs H Q E) : Cal P w K mg base k f ps sp' := by
  obtain ⟨fd, F, b, kp⟩ := C.ex
  exact ⟨fd, F.imp h, b, kp⟩
end
def tCal (sp : Sp) (t : TA) : TE := fun σ H Q => t σ H fun vs H1 => sp vs H1 Q E0
/-- o.m(..), o an instance of one of some classes -/
def tMet (OkC : Addr → Prop) (m : Str) (sp : Sp) (ta : TE) (t : TA) : TE := fun σ H Q => ta σ H fun x H1 => ∃ a C dx fs, x = .ref a ∧ H1 a = some (.ins C dx fs) ∧ OkC C ∧ fs.lookup m = none ∧
  t σ H1 fun vs H2 => sp (x :: vs) H2 Q E0
def tMk (C : Addr) (sp : Sp) (t : TA) : TE := fun σ H Q => t σ H fun vs H1 => ∀ x dx, H1 x = none → H1 dx = none → dx ≠ x →
  sp (.ref x :: vs) (upd (upd H1 dx (.own x)) x (.ins C dx [])) (fun v H2 => v = .non ∧ Q (.ref x) H2) E0
section
variable {X : Cx} {k : Nat} {f : Addr} {ps : List Str} {sp : Sp} {x m : Str} {p pos apos : Pos} {e o : Expr} {es : List Expr} {t : TA} {ta : TE}
theorem pe_cal (C : Cal X.prog X.w X.K X.mg X.base k f ps sp) (hr : Room k X.A) (hg : Gl X x) (hm : X.mg x = some (.ref f))
    (ha : PA X (e :: es) t) (hdb : (x == ("__debug__" : Str)) = false := by decide) (he : starEach (e :: es) X.env = (false, eval e X.env) :: starEach es X.env := by rfl) (hpl : (backTo pos (starEach es X.env)).any (·.1) = false := by rfl) :
    PE X (.Call (.Name x p) (e :: es) [] pos) (tCal sp t) := by
  obtain ⟨fd, F, b, kp⟩ := C.ex
  refine ⟨fun pins s σ H Q I h => ?_⟩
  refine (pe_call F hr hg hm kp b .nil pass0 ha hdb he hpl).run pins s σ H Q I ?_
  have e1 : ∀ vs : List V, vs ++ [] = vs := List.append_nil
  show t σ H fun vs H1 => sp (vs ++ []) H1 Q E0
  simp only [e1]
  exact h
structure IsM (K : PySem.W.Frag) (OkC : Addr → Prop) (m : Str) (f : Addr) : Prop where
  ok : ∀ C, OkC C → Cls K C ∧ Meth K C m f
theorem pe_met {pl : Sem Bool} {OkC : Addr → Prop} (he : PE X o ta) (hm : IsM X.K OkC m f) (Cc : Cal X.prog X.w X.K X.mg X.base k f ps sp) (hr : Room k X.A) (ha : PA X (e :: es) t)
    (hst : starEach (e :: es) X.env = (false, eval e X.env) :: starEach es X.env := by rfl) (hpl : (backTo pos (starEach es X.env)).any (·.1) = false := by rfl)
    (ht : eval (.Call (.Attribute o m apos) (e :: es) [] pos) X.env = (do
      let ov ← eval o X.env
      standAt apos.atName
      let (f, first) ← holding [ov] (getMethod ov m pl)
      callWith pos f first (backTo pos (starEach (e :: es) X.env)) (backToKw pos (keywordEach [] X.env))) := by rfl) :
    PE X (.Call (.Attribute o m apos) (e :: es) [] pos) (tMet OkC m sp ta t) := by
  obtain ⟨fd, F, b, kp⟩ := Cc.ex
  refine ⟨fun pins s σ H Q I h => ?_⟩
  refine PySem.W.methodCall_KW (pl := pl) (thn (he.run pins s σ H _ I h) fun u s1 ⟨x, H1, I1, rx, a, C, dx, fs, ex, ea, c, l, q⟩ => ?_) ht
  subst ex
  obtain rfl : u = Value.ref a := rx
  obtain ⟨c1, c2⟩ := hm.ok C c
  refine getmeth_ok I1 ea c1 c2 l ?_
  refine PySem.W.callWith_K (first := [.ref a]) (h₀ := X.base) I.ok.mod.kin c2.kp (thn (ha.run pos pins s1 σ H1 _ I1 q) fun us s2 ⟨vs, H2, I2, r, q2⟩ => ⟨I2.kIn, ?_⟩) hst hpl
  exact run_fn (us := .ref a :: us) (vs := .ref a :: vs) F hr b .nil pass0 I2 (.cons rfl r) (by rw [List.append_nil]; exact q2)
theorem pe_met0 {pl : Sem Bool} {OkC : Addr → Prop} (he : PE X o ta) (hm : IsM X.K OkC m f) (Cc : Cal X.prog X.w X.K X.mg X.base k f ps sp) (hr : Room k X.A)
    (ht : eval (.Call (.Attribute o m apos) [] [] pos) X.env = (do
      let ov ← eval o X.env
      standAt apos.atName
      let (f, first) ← holding [ov] (getMethod ov m pl)
      callWith pos f first (backTo pos (starEach [] X.env)) (backToKw pos (keywordEach [] X.env))) := by rfl) :
    PE X (.Call (.Attribute o m apos) [] [] pos) (tMet OkC m sp ta tNil) := by
  obtain ⟨fd, F, b, kp⟩ := Cc.ex
  refine ⟨fun pins s σ H Q I h => ?_⟩
  refine PySem.W.methodCall_KW (pl := pl) (thn (he.run pins s σ H _ I h) fun u s1 ⟨x, H1, I1, rx, a, C, dx, fs, ex, ea, c, l, q⟩ => ?_) ht
  subst ex
  obtain rfl : u = Value.ref a := rx
  obtain ⟨c1, c2⟩ := hm.ok C c
  refine getmeth_ok I1 ea c1 c2 l ?_
  exact PySem.W.callWith_K0 (first := [.ref a]) I1.kIn c2.kp (run_fn (us := [.ref a]) (vs := [.ref a]) F hr b .nil pass0 I1 (.cons rfl .nil) q)
theorem pe_mk {C : Addr} (M : Mk X.K C f) (Cc : Cal X.prog X.w X.K X.mg X.base k f ps sp) (hr : Room (k + 1) X.A) (hg : Gl X x) (hm : X.mg x = some (.ref C))
    (ha : PA X (e :: es) t) (hdb : (x == ("__debug__" : Str)) = false := by decide) (he : starEach (e :: es) X.env = (false, eval e X.env) :: starEach es X.env := by rfl) (hpl : (backTo pos (starEach es X.env)).any (·.1) = false := by rfl) :
    PE X (.Call (.Name x p) (e :: es) [] pos) (tMk C sp t) := by
  obtain ⟨fd, F, b, kp⟩ := Cc.ex
  refine ⟨fun pins s σ H Q I h => ?_⟩
  refine (pe_make M F hr hg hm b .nil pass0 ha hdb he hpl).run pins s σ H Q I ?_
  have e1 : ∀ vs : List V, vs ++ [] = vs := List.append_nil
  show t σ H fun vs H1 => ∀ x dx, H1 x = none → H1 dx = none → dx ≠ x → sp (.ref x :: (vs ++ [])) (upd (upd H1 dx (.own x)) x (.ins C dx [])) (fun v H2 => v = .non ∧ Q (.ref x) H2) E0
  simp only [e1]
  exact h
end

/-! ### data beside values -/
theorem paired_len {α β : Type} {F : α → β → Prop} {l : List α} {l' : List β} (h : Paired F l l') : l.length = l'.length := Paired.length h
theorem paired_get {α β : Type} {F : α → β → Prop} : ∀ {l : List α} {l' : List β} {i : Nat} {b : β}, Paired F l l' → l'[i]? = some b → ∃ a, l[i]? = some a ∧ F a b
  | _, _, _, _, .nil, h => by simp at h
  | _, _, 0, _, .cons r _, h => by simp at h; subst h; exact ⟨_, rfl, r⟩
  | _, _, i + 1, _, .cons _ t, h => by
    obtain ⟨a, h1, h2⟩ := paired_get (i := i) t (by simpa using h)
    exact ⟨a, by simpa using h1, h2⟩
theorem paired_getL {α β : Type} {F : α → β → Prop} : ∀ {l : List α} {l' : List β} {i : Nat} {a : α}, Paired F l l' → l[i]? = some a → ∃ b, l'[i]? = some b ∧ F a b
  | _, _, _, _, .nil, h => by simp at h
  | _, _, 0, _, .cons r _, h => by simp at h; subst h; exact ⟨_, rfl, r⟩
  | _, _, i + 1, _, .cons _ t, h => by
    obtain ⟨a, h1, h2⟩ := paired_getL (i := i) t (by simpa using h)
    exact ⟨a, by simpa using h1, h2⟩
theorem paired_mono {α β : Type} {F G : α → β → Prop} {l : List α} {l' : List β} (h : Paired F l l') (k : ∀ a b, F a b → G a b) : Paired G l l' := Paired.mapP h k
theorem paired_snoc {α β : Type} {F : α → β → Prop} : ∀ {l : List α} {l' : List β} {a : α} {b : β}, Paired F l l' → F a b → Paired F (l ++ [a]) (l' ++ [b])
  | _, _, _, _, .nil, h => .cons h .nil
  | _, _, _, _, .cons r t, h => .cons r (paired_snoc t h)
theorem paired_append {α β : Type} {F : α → β → Prop} : ∀ {l : List α} {l' : List β} {m : List α} {m' : List β}, Paired F l l' → Paired F m m' → Paired F (l ++ m) (l' ++ m')
  | _, _, _, _, .nil, h => h
  | _, _, _, _, .cons r t, h => .cons r (paired_append t h)
theorem paired_eq {α β : Type} {r : α → β} : ∀ {l : List α} {l' : List β}, Paired (fun a b => b = r a) l l' → l' = l.map r
  | _, _, .nil => rfl
  | _, _, .cons e t => by rw [List.map_cons, e, paired_eq t]
theorem paired_of_map {α β : Type} {F : α → β → Prop} {r : α → β} : ∀ {l : List α}, (∀ a ∈ l, F a (r a)) → Paired F l (l.map r)
  | [], _ => .nil
  | a :: l, h => .cons (h a (by simp)) (paired_of_map fun b hb => h b (List.mem_cons_of_mem _ hb))
theorem paired_take {α β : Type} {F : α → β → Prop} : ∀ {l : List α} {l' : List β} (n : Nat), Paired F l l' → Paired F (l.take n) (l'.take n)
  | _, _, 0, _ => by simpa using Paired.nil
  | _, _, _ + 1, .nil => by simpa using Paired.nil
  | _, _, n + 1, .cons r t => by simpa using Paired.cons r (paired_take n t)
theorem paired_drop {α β : Type} {F : α → β → Prop} : ∀ {l : List α} {l' : List β} (n : Nat), Paired F l l' → Paired F (l.drop n) (l'.drop n)
  | _, _, 0, h => h
  | _, _, _ + 1, .nil => by simpa using Paired.nil
  | _, _, n + 1, .cons r t => by simpa using paired_drop n t
theorem paired_map_left {α β γ : Type} {F : γ → β → Prop} {g : α → γ} : ∀ {l : List α} {l' : List β}, Paired (fun a b => F (g a) b) l l' → Paired F (l.map g) l'
  | _, _, .nil => .nil
  | _, _, .cons r t => .cons r (paired_map_left t)

theorem take_filter_yes {α : Type} {ds : List α} {i : Nat} {d : α} {p : α → Bool} (h : ds[i]? = some d) (hp : p d = true) : (ds.take (i + 1)).filter p = (ds.take i).filter p ++ [d] := by
  rw [List.take_add_one, h, List.filter_append]
  simp [hp]
theorem take_filter_no {α : Type} {ds : List α} {i : Nat} {d : α} {p : α → Bool} (h : ds[i]? = some d) (hp : p d = false) : (ds.take (i + 1)).filter p = (ds.take i).filter p := by
  rw [List.take_add_one, h, List.filter_append]
  simp [hp]

/-! ### comprehensions over data: the list ds beside the values xs; P: what is true of the element made of d -/
section
variable {α : Type} {K : PySem.W.Frag} {a : Addr} {xs : List V} {j : Nat} {tt : TT} {te : TE} {vs : List Nat} {σ : L2.St} {H : Hp} {Q : VK}
theorem lcD (ds : List α) (p : α → Bool) (P : α → V → Hp → Prop) (hS : SqL K H a xs) (hlen : xs.length = ds.length) (hz : ds.length ≤ 100000) (mono : ∀ d v H H', Same H H' → P d v H → P d v H')
    (hw : ∀ x, wipe ((wipe σ vs).set j (some x)) vs = wipe σ vs)
    (turn : ∀ (i : Nat) (x : V) (d : α) (D : Addr) (H1 : Hp), xs[i]? = some x → ds[i]? = some d → H D = none → H1 D ≠ none → Same H (off D H1) → ∀ (Ry : VK) (Rn : Hp → Prop),
      (p d = true → ∀ v H2, Same H1 H2 → P d v (off D H2) → Ry v H2) → (p d = false → ∀ H2, Same H1 H2 → Rn H2) →
      tt ((wipe σ vs).set j (some x)) H1 fun b H3 => if b = true then te ((wipe σ vs).set j (some x)) H3 Ry else Rn H3)
    (done : ∀ D H2 ys, H D = none → Same H (off D H2) → H2 D = some (.lst ys) → Paired (fun d v => P d v (off D H2)) (ds.filter p) ys → Q (.ref D) H2) :
    ∀ D, H D = none → ∃ W : Nat → Nat → Hp → Prop, (∃ m, W 0 m (upd H D (.lst []))) ∧ ∀ i m H, W i m H →
      ((Itl K a).stop i H ∧ Q (.ref D) H) ∨ ((Itl K a).go i H ∧ ∃ Nx : Hp → Prop, (∀ H', Nx H' → ∃ m', m' < m ∧ W (i + 1) m' H') ∧ ∀ x H', (Itl K a).yld i H x H' → (gName j) x (wipe σ vs) H' fun σ2 H2 => wipe σ2 vs = wipe σ vs ∧ tt σ2 H2 fun b H3 =>
        if b = true then te σ2 H3 fun y H4 => ∃ acc, H4 D = some (.lst acc) ∧ acc.length < sizeLine ∧ Nx (upd H4 D (.lst (acc ++ [y]))) else Nx H3) := by
  intro D nD
  have hlt : ∀ {n : Nat}, n ≤ 100000 → n < sizeLine := fun h => Nat.lt_of_le_of_lt h (by decide)
  refine lc_list (K := K) (a := a) (xs := xs) (fun i H' => Same H (off D H') ∧ ∃ ys, H' D = some (.lst ys) ∧ Paired (fun d v => P d v (off D H')) ((ds.take i).filter p) ys) ⟨?_, [], upd_same, by simpa using Paired.nil⟩ (fun i H' _ h => sql_same (h.1.trans off_le) hS) ?_ ?_
  · rw [off_upd]; exact same_off (Same.refl H) nD
  · rintro i x H' hx ⟨e, ys, hD, hp⟩
    refine ⟨hw x, ?_⟩
    have hi : i < ds.length := by rw [← hlen]; exact (List.getElem?_eq_some_iff.mp hx).1
    obtain ⟨d, hd⟩ : ∃ d, ds[i]? = some d := ⟨_, List.getElem?_eq_getElem hi⟩
    have hly : ys.length ≤ 100000 := by
      have h1 := paired_len hp
      have h2 := List.length_filter_le p (ds.take i)
      rw [List.length_take] at h2
      omega
    refine turn i x d D H' hx hd nD (by rw [hD]; simp) e _ _ (fun hpd v H2 e2 hP => ?_) fun hpd H2 e2 => ?_
    · refine ⟨ys, e2 _ _ hD, hlt hly, ?_, ys ++ [v], upd_same, ?_⟩
      · rw [off_upd]; exact e.trans (off_mono e2)
      · rw [off_upd, take_filter_yes hd hpd]
        exact paired_snoc (paired_mono hp fun d v h => mono d v _ _ (off_mono e2) h) hP
    · refine ⟨e.trans (off_mono e2), ys, e2 _ _ hD, ?_⟩
      rw [take_filter_no hd hpd]
      exact paired_mono hp fun d v h => mono d v _ _ (off_mono e2) h
  · rintro H' ⟨e, ys, hD, hp⟩
    refine done D H' ys nD e hD ?_
    rw [hlen, List.take_length] at hp
    exact hp
end
end Cw

/-! CwStr -/
set_option linter.all false
set_option Elab.async false
/-! The order of texts; sorted lists; counting. Plain Lean. -/
namespace Cw
open PySem PySem.Spec PyProof.Rows
abbrev cl (z : Str) : List Nat := z.cps.toList
theorem cl_inj {x y : Str} (h : cl x = cl y) : x = y := by
  cases x; cases y
  simp only [Str.mk.injEq]
  exact Array.toList_inj.mp h
theorem lt_irr : ∀ a : List Nat, ltCps a a = false
  | [] => rfl
  | a :: r => by simp [ltCps, lt_irr r]
theorem lt_tri : ∀ a b : List Nat, ltCps a b = false → ltCps b a = false → a = b
  | [], [], _, _ => rfl
  | [], _ :: _, h, _ => by simp [ltCps] at h
  | _ :: _, [], _, h => by simp [ltCps] at h
  | a :: r, b :: t, h1, h2 => by
    simp only [ltCps, Bool.or_eq_false_iff, decide_eq_false_iff_not, Bool.and_eq_false_imp, beq_iff_eq] at h1 h2
    have e : a = b := by omega
    subst e
    rw [lt_tri r t (h1.2 rfl) (h2.2 rfl)]
theorem lt_trans' : ∀ a b c : List Nat, ltCps a b = true → ltCps b c = true → ltCps a c = true
  | [], [], _, h, _ => by simp [ltCps] at h
  | [], _ :: _, [], _, h => by simp [ltCps] at h
  | [], _ :: _, _ :: _, _, _ => rfl
  | _ :: _, [], _, h, _ => by simp [ltCps] at h
  | _ :: _, _ :: _, [], _, h => by simp [ltCps] at h
  | a :: r, b :: t, c :: u, h1, h2 => by
    simp only [ltCps, Bool.or_eq_true, decide_eq_true_eq, Bool.and_eq_true, beq_iff_eq] at h1 h2 ⊢
    rcases h1 with h1 | ⟨e1, h1⟩ <;> rcases h2 with h2 | ⟨e2, h2⟩
    · left; omega
    · left; omega
    · left; omega
    · right; exact ⟨by omega, lt_trans' r t u h1 h2⟩
/-- a stands not behind b -/
def le (a b : Str) : Prop := ltCps (cl b) (cl a) = false
theorem le_anti {a b : Str} (h1 : le a b) (h2 : le b a) : a = b := cl_inj (lt_tri _ _ h2 h1)
theorem le_total (a b : Str) : le a b ∨ le b a := by
  cases h : ltCps (cl b) (cl a) with
  | false => exact .inl h
  | true =>
    right
    cases h2 : ltCps (cl a) (cl b) with
    | false => exact h2
    | true =>
      have := lt_trans' _ _ _ h h2
      rw [lt_irr] at this
      cases this
theorem le_trans {a b c : Str} (h1 : le a b) (h2 : le b c) : le a c := by
  unfold le at *
  cases h : ltCps (cl c) (cl a) with
  | false => rfl
  | true =>
    cases h3 : ltCps (cl a) (cl b) with
    | true =>
      have := lt_trans' _ _ _ h h3
      rw [h2] at this
      cases this
    | false =>
      have e := lt_tri _ _ h3 h1
      rw [e] at h
      rw [h2] at h
      cases h
theorem rising_pw : ∀ (l : List Str) (p : Str), risingS p l = true → (p :: l).Pairwise le
  | [], p, _ => by simp
  | x :: r, p, h => by
    have h' : (!ltCps x.cps.toList p.cps.toList && risingS x r) = true := h
    simp only [Bool.and_eq_true, Bool.not_eq_true'] at h'
    have ih := rising_pw r x h'.2
    refine List.pairwise_cons.mpr ⟨fun y hy => ?_, ih⟩
    rcases List.mem_cons.mp hy with e | hy
    · rw [e]; exact h'.1
    · exact le_trans h'.1 ((List.pairwise_cons.mp ih).1 y hy)
theorem sorted_pw {l : List Str} (h : sortedS l = true) : l.Pairwise le := by
  cases l with
  | nil => exact List.Pairwise.nil
  | cons x r => exact rising_pw r x h
theorem pw_unique : ∀ {l m : List Str}, l.Perm m → l.Pairwise le → m.Pairwise le → l = m
  | [], m, p, _, _ => (List.nil_perm.mp p).symm
  | x :: l, [], p, _, _ => by have := p.length_eq; simp at this
  | x :: l, y :: m, p, h1, h2 => by
    have a1 := List.pairwise_cons.mp h1
    have a2 := List.pairwise_cons.mp h2
    have e : x = y := by
      have hx : x ∈ y :: m := p.mem_iff.mp (by simp)
      have hy : y ∈ x :: l := p.mem_iff.mpr (by simp)
      rcases List.mem_cons.mp hx with e | hx
      · exact e
      · rcases List.mem_cons.mp hy with e | hy
        · exact e.symm
        · exact le_anti (a1.1 y hy) (a2.1 x hx)
    subst e
    rw [pw_unique (List.Perm.cons_inv p) a1.2 a2.2]
theorem sorted_unique {l m : List Str} (p : l.Perm m) (h1 : sortedS l = true) (h2 : sortedS m = true) : l = m := pw_unique p (sorted_pw h1) (sorted_pw h2)

/-! ### counting -/
theorem nodup_le {α : Type} [DecidableEq α] : ∀ {l m : List α}, l.Nodup → (∀ x ∈ l, x ∈ m) → l.length ≤ m.length
  | [], _, _, _ => by simp
  | x :: l, m, hn, hs => by
    obtain ⟨h1, h2⟩ := List.nodup_cons.mp hn
    have hx : x ∈ m := hs x (by simp)
    have := nodup_le (l := l) (m := m.erase x) h2 fun y hy => by
      have ne : y ≠ x := fun z => h1 (z ▸ hy)
      exact (List.mem_erase_of_ne ne).mpr (hs y (List.mem_cons_of_mem _ hy))
    have hl := List.length_erase_of_mem hx
    have : 0 < m.length := List.length_pos_of_mem hx
    simp only [List.length_cons]
    omega
end Cw

/-! CwData -/
set_option Elab.async false
set_option linter.all false
set_option maxRecDepth 100000
set_option maxHeartbeats 4000000
/-! Items and nets as they stand in the heap. -/
namespace Cw
open PySem PySem.Spec PyProof.Rows L2
theorem bt_len : bootBuiltins "len" = some (.builtin "len") := by decide +kernel
theorem bt_isinstance : bootBuiltins "isinstance" = some (.builtin "isinstance") := by decide +kernel
theorem bt_sorted : bootBuiltins "sorted" = some (.builtin "sorted") := by decide +kernel
theorem bt_all : bootBuiltins "all" = some (.builtin "all") := by decide +kernel
theorem bt_any : bootBuiltins "any" = some (.builtin "any") := by decide +kernel
theorem bt_abs : bootBuiltins "abs" = some (.builtin "abs") := by decide +kernel
theorem bt_max : bootBuiltins "max" = some (.builtin "max") := by decide +kernel
theorem bt_min : bootBuiltins "min" = some (.builtin "min") := by decide +kernel
theorem bt_divmod : bootBuiltins "divmod" = some (.builtin "divmod") := by decide +kernel
theorem bt_int : bootBuiltins "int" = some (.type "int") := by decide +kernel
theorem bt_bool : bootBuiltins "bool" = some (.type "bool") := by decide +kernel
theorem bt_str : bootBuiltins "str" = some (.type "str") := by decide +kernel
theorem bt_list : bootBuiltins "list" = some (.type "list") := by decide +kernel
theorem bt_tuple : bootBuiltins "tuple" = some (.type "tuple") := by decide +kernel
theorem bt_dict : bootBuiltins "dict" = some (.type "dict") := by decide +kernel
theorem bt_set : bootBuiltins "set" = some (.type "set") := by decide +kernel
theorem bt_super : bootBuiltins "super" = some (.type "super") := by decide +kernel

def sL (ss : List Str) : List V := ss.map V.str
def dk (w : List (Str × Str)) : List (Key × V) := w.map fun p => (Sum.inr p.1, V.str p.2)
def clsOf (K : PySem.W.Frag) (k : Nat) : Addr := if k = 0 then He.ga K "Leaf" else if k = 1 then He.ga K "Gatherer" else He.ga K "Closed"
def wordOf (k : Nat) : Str := if k = 0 then "Leaf" else if k = 1 then "Gatherer" else "Closed"
def fl (it : Item) (wA pA mA : Addr) : List (Str × V) :=
  ("name", .str it.nm) :: ("stretch", .str it.st) :: ("keeper", .str it.kp) :: ("own_way", .ref wA) :: ("own_parts", .ref pA) :: (if it.k = 0 then [] else [("own_members", .ref mA)])
def partsOf (it : Item) (wA mA : Addr) : List V := .str (wordOf it.k) :: .str it.nm :: .str it.st :: .str it.kp :: .ref wA :: (if it.k = 0 then [] else [.ref mA])
structure ItemAt (K : PySem.W.Frag) (H : Hp) (p : Addr) (it : Item) : Prop where
  kle : it.k ≤ 2
  ob : ∃ dx wA pA mA wy, H p = some (.ins (clsOf K it.k) dx (fl it wA pA mA)) ∧ List.Perm wy it.wy ∧ H wA = some (.dK (dk wy)) ∧ H pA = some (.tup (partsOf it wA mA)) ∧ (it.k ≠ 0 → H mA = some (.lst (sL it.mb)))
theorem ItemAt.mono {K : PySem.W.Frag} {H H' : Hp} {p : Addr} {it : Item} (h : ItemAt K H p it) (e : Same H H') : ItemAt K H' p it := by
  obtain ⟨kle, dx, wA, pA, mA, wy, h1, h2, h3, h4, h5⟩ := h
  exact ⟨kle, dx, wA, pA, mA, wy, e _ _ h1, h2, e _ _ h3, e _ _ h4, fun z => e _ _ (h5 z)⟩
theorem sL_len (ss : List Str) : (sL ss).length = ss.length := List.length_map ..
theorem dk_len (w : List (Str × Str)) : (dk w).length = w.length := List.length_map ..

/-! ### the attributes -/
theorem lk_hit {f : Str} {v : V} {r : List (Str × V)} : List.lookup f ((f, v) :: r) = some v := by simp [List.lookup]
theorem lk_miss {f g : Str} {v : V} {r : List (Str × V)} (h : (f == g) = false) : List.lookup f ((g, v) :: r) = List.lookup f r := by simp [List.lookup, h]
section
variable {it : Item} {wA pA mA : Addr}
theorem fl_name : (fl it wA pA mA).lookup ("name" : Str) = some (.str it.nm) := lk_hit
theorem fl_stretch : (fl it wA pA mA).lookup ("stretch" : Str) = some (.str it.st) := by
  unfold fl
  rw [lk_miss (by decide +kernel), lk_hit]
theorem fl_keeper : (fl it wA pA mA).lookup ("keeper" : Str) = some (.str it.kp) := by
  unfold fl
  rw [lk_miss (by decide +kernel), lk_miss (by decide +kernel), lk_hit]
theorem fl_way : (fl it wA pA mA).lookup ("own_way" : Str) = some (.ref wA) := by
  unfold fl
  rw [lk_miss (by decide +kernel), lk_miss (by decide +kernel), lk_miss (by decide +kernel), lk_hit]
theorem fl_parts : (fl it wA pA mA).lookup ("own_parts" : Str) = some (.ref pA) := by
  unfold fl
  rw [lk_miss (by decide +kernel), lk_miss (by decide +kernel), lk_miss (by decide +kernel), lk_miss (by decide +kernel), lk_hit]
theorem fl_members (h : it.k ≠ 0) : (fl it wA pA mA).lookup ("own_members" : Str) = some (.ref mA) := by
  unfold fl
  rw [if_neg h, lk_miss (by decide +kernel), lk_miss (by decide +kernel), lk_miss (by decide +kernel), lk_miss (by decide +kernel), lk_miss (by decide +kernel), lk_hit]
theorem fl_none {m : Str} (h : (m == "name") = false ∧ (m == "stretch") = false ∧ (m == "keeper") = false ∧ (m == "own_way") = false ∧ (m == "own_parts") = false ∧ (m == "own_members") = false) : (fl it wA pA mA).lookup m = none := by
  obtain ⟨h1, h2, h3, h4, h5, h6⟩ := h
  unfold fl
  rw [lk_miss h1, lk_miss h2, lk_miss h3, lk_miss h4, lk_miss h5]
  split
  · rfl
  · rw [lk_miss h6]; rfl
end
theorem clsC {K : PySem.W.Frag} {mg : Str → Option Value} (T : Txt K mg) {k : Nat} : ItemC K (clsOf K k) (wordOf k) := by
  unfold clsOf wordOf
  split
  · exact T.c_Leaf
  · split
    · exact T.c_Gatherer
    · exact T.c_Closed

/-! ### reading them -/
section
variable {K : PySem.W.Frag} {mg : Str → Option Value} {H : Hp} {p : Addr} {it : Item} {R : V → Prop}
theorem rd_name (T : Txt K mg) (h : ItemAt K H p it) (q : R (.str it.nm)) : ∃ a C dx fs v, V.ref p = .ref a ∧ H a = some (.ins C dx fs) ∧ Cls K C ∧ NoAttr K C "name" ∧ fs.lookup ("name" : Str) = some v ∧ R v := by
  obtain ⟨kle, dx, wA, pA, mA, wy, h1, h2, h3, h4, h5⟩ := h
  exact ⟨p, _, dx, _, _, rfl, h1, (clsC T).ins.cl, (clsC T).n_name, fl_name, q⟩
theorem rd_stretch (T : Txt K mg) (h : ItemAt K H p it) (q : R (.str it.st)) : ∃ a C dx fs v, V.ref p = .ref a ∧ H a = some (.ins C dx fs) ∧ Cls K C ∧ NoAttr K C "stretch" ∧ fs.lookup ("stretch" : Str) = some v ∧ R v := by
  obtain ⟨kle, dx, wA, pA, mA, wy, h1, h2, h3, h4, h5⟩ := h
  exact ⟨p, _, dx, _, _, rfl, h1, (clsC T).ins.cl, (clsC T).n_stretch, fl_stretch, q⟩
theorem rd_keeper (T : Txt K mg) (h : ItemAt K H p it) (q : R (.str it.kp)) : ∃ a C dx fs v, V.ref p = .ref a ∧ H a = some (.ins C dx fs) ∧ Cls K C ∧ NoAttr K C "keeper" ∧ fs.lookup ("keeper" : Str) = some v ∧ R v := by
  obtain ⟨kle, dx, wA, pA, mA, wy, h1, h2, h3, h4, h5⟩ := h
  exact ⟨p, _, dx, _, _, rfl, h1, (clsC T).ins.cl, (clsC T).n_keeper, fl_keeper, q⟩
theorem rd_way (T : Txt K mg) (h : ItemAt K H p it) (q : ∀ wA wy, List.Perm wy it.wy → H wA = some (.dK (dk wy)) → R (.ref wA)) : ∃ a C dx fs v, V.ref p = .ref a ∧ H a = some (.ins C dx fs) ∧ Cls K C ∧ NoAttr K C "own_way" ∧ fs.lookup ("own_way" : Str) = some v ∧ R v := by
  obtain ⟨kle, dx, wA, pA, mA, wy, h1, h2, h3, h4, h5⟩ := h
  exact ⟨p, _, dx, _, _, rfl, h1, (clsC T).ins.cl, (clsC T).n_own_way, fl_way, q wA wy h2 h3⟩
theorem rd_members (T : Txt K mg) (h : ItemAt K H p it) (hk : it.k ≠ 0) (q : ∀ mA, H mA = some (.lst (sL it.mb)) → R (.ref mA)) : ∃ a C dx fs v, V.ref p = .ref a ∧ H a = some (.ins C dx fs) ∧ Cls K C ∧ NoAttr K C "own_members" ∧ fs.lookup ("own_members" : Str) = some v ∧ R v := by
  obtain ⟨kle, dx, wA, pA, mA, wy, h1, h2, h3, h4, h5⟩ := h
  exact ⟨p, _, dx, _, _, rfl, h1, (clsC T).ins.cl, (clsC T).n_own_members, fl_members hk, q mA (h5 hk)⟩
/-- a method's receiver -/
theorem it_met {m : Str} {R : Prop} (h : ItemAt K H p it) (hm : (m == "name") = false ∧ (m == "stretch") = false ∧ (m == "keeper") = false ∧ (m == "own_way") = false ∧ (m == "own_parts") = false ∧ (m == "own_members") = false) (q : R) :
    ∃ a C dx fs, V.ref p = .ref a ∧ H a = some (.ins C dx fs) ∧ (∃ k, k ≤ 2 ∧ C = clsOf K k) ∧ fs.lookup m = none ∧ R := by
  obtain ⟨kle, dx, wA, pA, mA, wy, h1, h2, h3, h4, h5⟩ := h
  exact ⟨p, _, dx, _, rfl, h1, ⟨_, kle, rfl⟩, fl_none hm, q⟩
theorem g_met {m : Str} {R : Prop} (h : ItemAt K H p it) (hk : it.k ≠ 0) (hm : (m == "name") = false ∧ (m == "stretch") = false ∧ (m == "keeper") = false ∧ (m == "own_way") = false ∧ (m == "own_parts") = false ∧ (m == "own_members") = false) (q : R) :
    ∃ a C dx fs, V.ref p = .ref a ∧ H a = some (.ins C dx fs) ∧ (∃ k, k ≠ 0 ∧ k ≤ 2 ∧ C = clsOf K k) ∧ fs.lookup m = none ∧ R := by
  obtain ⟨kle, dx, wA, pA, mA, wy, h1, h2, h3, h4, h5⟩ := h
  exact ⟨p, _, dx, _, rfl, h1, ⟨_, hk, kle, rfl⟩, fl_none hm, q⟩
theorem im_Item_sees (T : Txt K mg) : IsM K (fun C => ∃ k, k ≤ 2 ∧ C = clsOf K k) "sees" (He.ma K (He.ga K "Item") "sees") := ⟨fun C ⟨k, _, e⟩ => by rw [e]; exact ⟨(clsC T).ins.cl, (clsC T).m_sees⟩⟩
theorem im_Item_way (T : Txt K mg) : IsM K (fun C => ∃ k, k ≤ 2 ∧ C = clsOf K k) "way" (He.ma K (He.ga K "Item") "way") := ⟨fun C ⟨k, _, e⟩ => by rw [e]; exact ⟨(clsC T).ins.cl, (clsC T).m_way⟩⟩
theorem im_Gatherer_members (T : Txt K mg) : IsM K (fun C => ∃ k, k ≠ 0 ∧ k ≤ 2 ∧ C = clsOf K k) "members" (He.ma K (He.ga K "Gatherer") "members") := ⟨fun C ⟨k, h0, h2, e⟩ => by
  rw [e]
  refine ⟨(clsC T).ins.cl, ?_⟩
  unfold clsOf
  rw [if_neg h0]
  split
  · exact T.m_Gatherer_members
  · exact T.m_Closed_members⟩
theorem ty_item (T : Txt K mg) (h : ItemAt K H p it) : TyX K H (.ref p) (.ref (clsOf K it.k)) := by
  obtain ⟨kle, dx, wA, pA, mA, wy, h1, h2, h3, h4, h5⟩ := h
  have c := (clsC T (k := it.k)).ins
  exact .base (.ins h1 c.cl c.ha c.hn c.htk c.hm)
/-- isinstance(item, C) -/
theorem kit_Leaf (T : Txt K mg) (k : Nat) : PySem.W.kitOne K (.ref (clsOf K k)) (.ref (He.ga K "Leaf")) = some (decide (k = 0)) := by
  unfold clsOf
  split
  · rename_i h; rw [T.k_Leaf_Leaf]; simp [h]
  · rename_i h
    split
    · rw [T.k_Gatherer_Leaf]; simp [h]
    · rw [T.k_Closed_Leaf]; simp [h]
theorem kit_Gatherer (T : Txt K mg) (k : Nat) : PySem.W.kitOne K (.ref (clsOf K k)) (.ref (He.ga K "Gatherer")) = some (decide (k ≠ 0)) := by
  unfold clsOf
  split
  · rename_i h; rw [T.k_Leaf_Gatherer]; simp [h]
  · rename_i h
    split
    · rw [T.k_Gatherer_Gatherer]; simp [h]
    · rw [T.k_Closed_Gatherer]; simp [h]
theorem kit_Closed (T : Txt K mg) {k : Nat} (hk : k ≤ 2) : PySem.W.kitOne K (.ref (clsOf K k)) (.ref (He.ga K "Closed")) = some (decide (k = 2)) := by
  unfold clsOf
  split
  · rename_i h; rw [T.k_Leaf_Closed]; simp [h]
  · rename_i h
    split
    · rename_i h1; rw [T.k_Gatherer_Closed]; simp [h1]
    · rename_i h1
      have : k = 2 := by omega
      rw [T.k_Closed_Closed]; simp [this]
end

/-! ### nets -/
structure NetAt (K : PySem.W.Frag) (H : Hp) (p : Addr) (w : Nat) (its : List Item) : Prop where
  ob : ∃ dx lA dA ips ops, H p = some (.ins (He.ga K "Gathered") dx [("own_width", .int (w : Int)), ("told_items", .ref lA), ("own_items", .ref dA)]) ∧ H lA = some (.lst (ips.map fun q : Addr × Item => V.ref q.1)) ∧
    H dA = some (.dK (ops.map fun q : Addr × Item => (Sum.inr q.2.nm, V.ref q.1))) ∧ List.Perm ops ips ∧ its = ips.map (·.2) ∧ ∀ q ∈ ips, ItemAt K H q.1 q.2
theorem NetAt.mono {K : PySem.W.Frag} {H H' : Hp} {p : Addr} {w : Nat} {its : List Item} (h : NetAt K H p w its) (e : Same H H') : NetAt K H' p w its := by
  obtain ⟨dx, lA, dA, ips, ops, h1, h2, h3, h4, h5, h6⟩ := h
  exact ⟨dx, lA, dA, ips, ops, e _ _ h1, e _ _ h2, e _ _ h3, h4, h5, fun q hq => (h6 q hq).mono e⟩
section
variable {K : PySem.W.Frag} {mg : Str → Option Value} {H : Hp} {p : Addr} {w : Nat} {its : List Item} {R : V → Prop}
theorem rd_width (T : Txt K mg) (h : NetAt K H p w its) (q : R (.int (w : Int))) : ∃ a C dx fs v, V.ref p = .ref a ∧ H a = some (.ins C dx fs) ∧ Cls K C ∧ NoAttr K C "own_width" ∧ fs.lookup ("own_width" : Str) = some v ∧ R v := by
  obtain ⟨dx, lA, dA, ips, ops, h1, h2, h3, h4, h5, h6⟩ := h
  exact ⟨p, _, dx, _, _, rfl, h1, T.c_Gathered.cl, T.n_own_width, lk_hit, q⟩
theorem rd_told (T : Txt K mg) (h : NetAt K H p w its) (q : ∀ (lA : Addr) (ips : List (Addr × Item)), H lA = some (.lst (ips.map fun q : Addr × Item => V.ref q.1)) → its = ips.map (·.2) → (∀ q ∈ ips, ItemAt K H q.1 q.2) → R (.ref lA)) :
    ∃ a C dx fs v, V.ref p = .ref a ∧ H a = some (.ins C dx fs) ∧ Cls K C ∧ NoAttr K C "told_items" ∧ fs.lookup ("told_items" : Str) = some v ∧ R v := by
  obtain ⟨dx, lA, dA, ips, ops, h1, h2, h3, h4, h5, h6⟩ := h
  exact ⟨p, _, dx, _, _, rfl, h1, T.c_Gathered.cl, T.n_told_items, by rw [lk_miss (by decide +kernel), lk_hit], q lA ips h2 h5 h6⟩
theorem rd_own (T : Txt K mg) (h : NetAt K H p w its) (q : ∀ (dA : Addr) (ops : List (Addr × Item)), H dA = some (.dK (ops.map fun q : Addr × Item => (Sum.inr q.2.nm, V.ref q.1))) → List.Perm (ops.map (·.2)) its → (∀ q ∈ ops, ItemAt K H q.1 q.2) → R (.ref dA)) :
    ∃ a C dx fs v, V.ref p = .ref a ∧ H a = some (.ins C dx fs) ∧ Cls K C ∧ NoAttr K C "own_items" ∧ fs.lookup ("own_items" : Str) = some v ∧ R v := by
  obtain ⟨dx, lA, dA, ips, ops, h1, h2, h3, h4, h5, h6⟩ := h
  exact ⟨p, _, dx, _, _, rfl, h1, T.c_Gathered.cl, T.n_own_items, by rw [lk_miss (by decide +kernel), lk_miss (by decide +kernel), lk_hit], q dA ops h3 (by rw [h5]; exact h4.map _) fun z hz => h6 z (h4.mem_iff.mp hz)⟩
theorem net_met {m : Str} {R : Prop} (h : NetAt K H p w its) (hm : (m == "own_width") = false ∧ (m == "told_items") = false ∧ (m == "own_items") = false) (q : R) :
    ∃ a C dx fs, V.ref p = .ref a ∧ H a = some (.ins C dx fs) ∧ C = He.ga K "Gathered" ∧ fs.lookup m = none ∧ R := by
  obtain ⟨dx, lA, dA, ips, ops, h1, h2, h3, h4, h5, h6⟩ := h
  exact ⟨p, _, dx, _, rfl, h1, rfl, by rw [lk_miss hm.1, lk_miss hm.2.1, lk_miss hm.2.2]; rfl, q⟩
end
section
variable {K : PySem.W.Frag} {mg : Str → Option Value}
theorem im_Gathered_hops (T : Txt K mg) : IsM K (fun C => C = He.ga K "Gathered") "hops" (He.ma K (He.ga K "Gathered") "hops") := ⟨fun C e => by rw [e]; exact ⟨T.c_Gathered.cl, T.m_Gathered_hops⟩⟩
theorem im_Gathered_leaves (T : Txt K mg) : IsM K (fun C => C = He.ga K "Gathered") "leaves" (He.ma K (He.ga K "Gathered") "leaves") := ⟨fun C e => by rw [e]; exact ⟨T.c_Gathered.cl, T.m_Gathered_leaves⟩⟩
theorem im_Gathered_gatherers (T : Txt K mg) : IsM K (fun C => C = He.ga K "Gathered") "gatherers" (He.ma K (He.ga K "Gathered") "gatherers") := ⟨fun C e => by rw [e]; exact ⟨T.c_Gathered.cl, T.m_Gathered_gatherers⟩⟩
theorem im_Gathered_getitem (T : Txt K mg) : IsM K (fun C => C = He.ga K "Gathered") "__getitem__" (He.ma K (He.ga K "Gathered") "__getitem__") := ⟨fun C e => by rw [e]; exact ⟨T.c_Gathered.cl, T.m_Gathered_getitem⟩⟩
theorem im_Gathered_contains (T : Txt K mg) : IsM K (fun C => C = He.ga K "Gathered") "__contains__" (He.ma K (He.ga K "Gathered") "__contains__") := ⟨fun C e => by rw [e]; exact ⟨T.c_Gathered.cl, T.m_Gathered_contains⟩⟩
theorem im_Gathered_cells (T : Txt K mg) : IsM K (fun C => C = He.ga K "Gathered") "cells" (He.ma K (He.ga K "Gathered") "cells") := ⟨fun C e => by rw [e]; exact ⟨T.c_Gathered.cl, T.m_Gathered_cells⟩⟩
theorem im_Gathered_want_gatherer (T : Txt K mg) : IsM K (fun C => C = He.ga K "Gathered") "want_gatherer" (He.ma K (He.ga K "Gathered") "want_gatherer") := ⟨fun C e => by rw [e]; exact ⟨T.c_Gathered.cl, T.m_Gathered_want_gatherer⟩⟩
theorem im_Gathered_with_other (T : Txt K mg) : IsM K (fun C => C = He.ga K "Gathered") "with_other" (He.ma K (He.ga K "Gathered") "with_other") := ⟨fun C e => by rw [e]; exact ⟨T.c_Gathered.cl, T.m_Gathered_with_other⟩⟩
theorem im_Gathered_with_hole (T : Txt K mg) : IsM K (fun C => C = He.ga K "Gathered") "with_hole" (He.ma K (He.ga K "Gathered") "with_hole") := ⟨fun C e => by rw [e]; exact ⟨T.c_Gathered.cl, T.m_Gathered_with_hole⟩⟩
theorem im_Gathered_without_hole (T : Txt K mg) : IsM K (fun C => C = He.ga K "Gathered") "without_hole" (He.ma K (He.ga K "Gathered") "without_hole") := ⟨fun C e => by rw [e]; exact ⟨T.c_Gathered.cl, T.m_Gathered_without_hole⟩⟩
theorem im_Gathered_eq (T : Txt K mg) : IsM K (fun C => C = He.ga K "Gathered") "__eq__" (He.ma K (He.ga K "Gathered") "__eq__") := ⟨fun C e => by rw [e]; exact ⟨T.c_Gathered.cl, T.m_Gathered_eq⟩⟩
theorem im_Gathered_want_withdrawn (T : Txt K mg) : IsM K (fun C => C = He.ga K "Gathered") "want_withdrawn" (He.ma K (He.ga K "Gathered") "want_withdrawn") := ⟨fun C e => by rw [e]; exact ⟨T.c_Gathered.cl, T.m_Gathered_want_withdrawn⟩⟩
theorem im_Gathered_want_hop (T : Txt K mg) : IsM K (fun C => C = He.ga K "Gathered") "want_hop" (He.ma K (He.ga K "Gathered") "want_hop") := ⟨fun C e => by rw [e]; exact ⟨T.c_Gathered.cl, T.m_Gathered_want_hop⟩⟩
theorem im_Gathered_want_question (T : Txt K mg) : IsM K (fun C => C = He.ga K "Gathered") "want_question" (He.ma K (He.ga K "Gathered") "want_question") := ⟨fun C e => by rw [e]; exact ⟨T.c_Gathered.cl, T.m_Gathered_want_question⟩⟩
theorem im_Gathered_sent_by (T : Txt K mg) : IsM K (fun C => C = He.ga K "Gathered") "sent_by" (He.ma K (He.ga K "Gathered") "sent_by") := ⟨fun C e => by rw [e]; exact ⟨T.c_Gathered.cl, T.m_Gathered_sent_by⟩⟩
theorem im_Gathered_way (T : Txt K mg) : IsM K (fun C => C = He.ga K "Gathered") "way" (He.ma K (He.ga K "Gathered") "way") := ⟨fun C e => by rw [e]; exact ⟨T.c_Gathered.cl, T.m_Gathered_way⟩⟩
theorem im_Gathered_end (T : Txt K mg) : IsM K (fun C => C = He.ga K "Gathered") "end" (He.ma K (He.ga K "Gathered") "end") := ⟨fun C e => by rw [e]; exact ⟨T.c_Gathered.cl, T.m_Gathered_end⟩⟩
end
end Cw

/-! CwLoop -/
set_option Elab.async false
set_option linter.all false
set_option maxRecDepth 100000
set_option maxHeartbeats 4000000
/-! Comprehensions and loops over anything that is walked. -/
namespace Cw
open PySem PySem.Spec PyProof.Rows L2
theorem lt_line {n : Nat} (h : n ≤ 100000) : n < sizeLine := Nat.lt_of_le_of_lt h (by decide)
theorem le_line {n : Nat} (h : n ≤ 100000) : n ≤ sizeLine := Nat.le_of_lt (lt_line h)
section
variable {α : Type} {J : It} {g : TG} {tt : TT} {te : TE} {vs : List Nat} {σ : L2.St} {H : Hp} {Q : Addr → Hp → Prop}
/-- [e for target in J if t], the list ds beside what J yields -/
theorem lcG (ds : List α) (p : α → Bool) (P : α → V → Hp → Prop) (hz : ds.length ≤ 100000) (mono : ∀ d v H H', Same H H' → P d v H → P d v H')
    (go : ∀ i H', i < ds.length → Same H H' → J.go i H') (stop : ∀ H', Same H H' → J.stop ds.length H')
    (turn : ∀ (i : Nat) (d : α) (D : Addr) (x : V) (H1 H2 : Hp), ds[i]? = some d → H D = none → H1 D ≠ none → Same H (off D H1) → J.yld i H1 x H2 → ∀ (Ry : VK) (Rn : Hp → Prop),
      (p d = true → ∀ v H3, Same H1 H3 → P d v (off D H3) → Ry v H3) → (p d = false → ∀ H3, Same H1 H3 → Rn H3) →
      g x (wipe σ vs) H2 fun σ2 H3 => wipe σ2 vs = wipe σ vs ∧ tt σ2 H3 fun b H4 => if b = true then te σ2 H4 Ry else Rn H4)
    (done : ∀ D H2 ys, H D = none → Same H (off D H2) → H2 D = some (.lst ys) → Paired (fun d v => P d v (off D H2)) (ds.filter p) ys → Q D H2) :
    ∀ D, H D = none → ∃ W : Nat → Nat → Hp → Prop, (∃ m, W 0 m (upd H D (.lst []))) ∧ ∀ i m H, W i m H →
      (J.stop i H ∧ Q D H) ∨ (J.go i H ∧ ∃ Nx : Hp → Prop, (∀ H', Nx H' → ∃ m', m' < m ∧ W (i + 1) m' H') ∧ ∀ x H', J.yld i H x H' → g x (wipe σ vs) H' fun σ2 H2 => wipe σ2 vs = wipe σ vs ∧ tt σ2 H2 fun b H3 =>
        if b = true then te σ2 H3 fun y H4 => ∃ acc, H4 D = some (.lst acc) ∧ acc.length < sizeLine ∧ Nx (upd H4 D (.lst (acc ++ [y]))) else Nx H3) := by
  intro D nD
  refine ⟨fun i m H' => m = ds.length - i ∧ i ≤ ds.length ∧ Same H (off D H') ∧ ∃ ys, H' D = some (.lst ys) ∧ Paired (fun d v => P d v (off D H')) ((ds.take i).filter p) ys, ⟨ds.length, by simp, Nat.zero_le _, ?_, [], upd_same, by simpa using Paired.nil⟩, ?_⟩
  · rw [off_upd]; exact same_off (Same.refl H) nD
  · rintro i m H' ⟨rfl, hi, e, ys, hD, hp⟩
    by_cases hlt : i < ds.length
    · obtain ⟨d, hd⟩ : ∃ d, ds[i]? = some d := ⟨_, List.getElem?_eq_getElem hlt⟩
      have hly : ys.length ≤ 100000 := by
        have h1 := paired_len hp
        have h2 := List.length_filter_le p (ds.take i)
        rw [List.length_take] at h2
        omega
      refine .inr ⟨go i H' hlt (e.trans off_le), fun H' => i + 1 ≤ ds.length ∧ Same H (off D H') ∧ ∃ ys, H' D = some (.lst ys) ∧ Paired (fun d v => P d v (off D H')) ((ds.take (i + 1)).filter p) ys, fun H' ⟨a, b⟩ => ⟨_, by omega, rfl, a, b⟩, fun x H2 y => ?_⟩
      refine turn i d D x H' H2 hd nD (by rw [hD]; simp) e y _ _ (fun hpd v H3 e3 hP => ?_) fun hpd H3 e3 => ?_
      · refine ⟨ys, e3 _ _ hD, lt_line hly, hlt, ?_, ys ++ [v], upd_same, ?_⟩
        · rw [off_upd]; exact e.trans (off_mono e3)
        · rw [off_upd, take_filter_yes hd hpd]
          exact paired_snoc (paired_mono hp fun d v h => mono d v _ _ (off_mono e3) h) hP
      · refine ⟨hlt, e.trans (off_mono e3), ys, e3 _ _ hD, ?_⟩
        rw [take_filter_no hd hpd]
        exact paired_mono hp fun d v h => mono d v _ _ (off_mono e3) h
    · have ei : i = ds.length := by omega
      subst ei
      refine .inl ⟨stop H' (e.trans off_le), done D H' ys nD e hD ?_⟩
      rw [List.take_length] at hp
      exact hp
/-- [e for target in J] -/
theorem lcY (ds : List α) (P : α → V → Hp → Prop) (hz : ds.length ≤ 100000) (mono : ∀ d v H H', Same H H' → P d v H → P d v H')
    (go : ∀ i H', i < ds.length → Same H H' → J.go i H') (stop : ∀ H', Same H H' → J.stop ds.length H')
    (turn : ∀ (i : Nat) (d : α) (D : Addr) (x : V) (H1 H2 : Hp), ds[i]? = some d → H D = none → H1 D ≠ none → Same H (off D H1) → J.yld i H1 x H2 → ∀ (Ry : VK) (Rn : Hp → Prop),
      (∀ v H3, Same H1 H3 → P d v (off D H3) → Ry v H3) → g x (wipe σ vs) H2 fun σ2 H3 => wipe σ2 vs = wipe σ vs ∧ tYes σ2 H3 fun b H4 => if b = true then te σ2 H4 Ry else Rn H4)
    (done : ∀ D H2 ys, H D = none → Same H (off D H2) → H2 D = some (.lst ys) → Paired (fun d v => P d v (off D H2)) ds ys → Q D H2) :
    ∀ D, H D = none → ∃ W : Nat → Nat → Hp → Prop, (∃ m, W 0 m (upd H D (.lst []))) ∧ ∀ i m H, W i m H →
      (J.stop i H ∧ Q D H) ∨ (J.go i H ∧ ∃ Nx : Hp → Prop, (∀ H', Nx H' → ∃ m', m' < m ∧ W (i + 1) m' H') ∧ ∀ x H', J.yld i H x H' → g x (wipe σ vs) H' fun σ2 H2 => wipe σ2 vs = wipe σ vs ∧ tYes σ2 H2 fun b H3 =>
        if b = true then te σ2 H3 fun y H4 => ∃ acc, H4 D = some (.lst acc) ∧ acc.length < sizeLine ∧ Nx (upd H4 D (.lst (acc ++ [y]))) else Nx H3) := by
  refine lcG ds (fun _ => true) P hz mono go stop (fun i d D x H1 H2 h1 h2 h3 h4 h5 Ry Rn hy _ => turn i d D x H1 H2 h1 h2 h3 h4 h5 Ry Rn (hy rfl)) fun D H2 ys h1 h2 h3 h4 => ?_
  refine done D H2 ys h1 h2 h3 ?_
  have e : ds.filter (fun _ => true) = ds := List.filter_eq_self.mpr fun _ _ => rfl
  rw [e] at h4
  exact h4
/-- {k: v for target in J}, keys unlike -/
theorem dcG {tk tv : TE} (ds : List α) (kf : α → Str) (P : α → V → Hp → Prop) (hn : (ds.map kf).Nodup) (hz : ds.length ≤ 100000) (mono : ∀ d v H H', Same H H' → P d v H → P d v H')
    (go : ∀ i H', i < ds.length → Same H H' → J.go i H') (stop : ∀ H', Same H H' → J.stop ds.length H')
    (turn : ∀ (i : Nat) (d : α) (D : Addr) (x : V) (H1 H2 : Hp), ds[i]? = some d → H D = none → H1 D ≠ none → Same H (off D H1) → J.yld i H1 x H2 → ∀ (Ry : V → V → Hp → Prop),
      (∀ v H3, Same H1 H3 → P d v (off D H3) → Ry (.str (kf d)) v H3) →
      g x (wipe σ vs) H2 fun σ2 H3 => wipe σ2 vs = wipe σ vs ∧ tk σ2 H3 fun y H4 => tv σ2 H4 fun z H5 => Ry y z H5)
    (done : ∀ D H2 kvs, H D = none → Same H (off D H2) → H2 D = some (.dK kvs) → Paired (fun d (q : Key × V) => q.1 = Sum.inr (kf d) ∧ P d q.2 (off D H2)) ds kvs → Q D H2) :
    ∀ D, H D = none → ∃ W : Nat → Nat → Hp → Prop, (∃ m, W 0 m (upd H D (.dK []))) ∧ ∀ i m H, W i m H →
      (J.stop i H ∧ Q D H) ∨ (J.go i H ∧ ∃ Nx : Hp → Prop, (∀ H', Nx H' → ∃ m', m' < m ∧ W (i + 1) m' H') ∧ ∀ x H', J.yld i H x H' → g x (wipe σ vs) H' fun σ2 H2 => wipe σ2 vs = wipe σ vs ∧ tYes σ2 H2 fun b H3 =>
        if b = true then tk σ2 H3 fun y H4 => tv σ2 H4 fun z H5 => ∃ kvs k, y = kV k ∧ H5 D = some (.dK kvs) ∧ kvs.length < sizeLine ∧ Nx (upd H5 D (.dK (putK kvs k z))) else Nx H3) := by
  intro D nD
  refine ⟨fun i m H' => m = ds.length - i ∧ i ≤ ds.length ∧ Same H (off D H') ∧ ∃ kvs, H' D = some (.dK kvs) ∧ Paired (fun d (q : Key × V) => q.1 = Sum.inr (kf d) ∧ P d q.2 (off D H')) (ds.take i) kvs, ⟨ds.length, by simp, Nat.zero_le _, ?_, [], upd_same, by simpa using Paired.nil⟩, ?_⟩
  · rw [off_upd]; exact same_off (Same.refl H) nD
  · rintro i m H' ⟨rfl, hi, e, kvs, hD, hp⟩
    by_cases hlt : i < ds.length
    · obtain ⟨d, hd⟩ : ∃ d, ds[i]? = some d := ⟨_, List.getElem?_eq_getElem hlt⟩
      have hly : kvs.length ≤ 100000 := by
        have h1 := paired_len hp
        rw [List.length_take] at h1
        omega
      have hnew : valV kvs (Sum.inr (kf d) : Key) = none := by
        cases q : valV kvs (Sum.inr (kf d) : Key) with
        | none => rfl
        | some v =>
          exfalso
          unfold valV at q
          rw [Option.map_eq_some_iff] at q
          obtain ⟨kv, hf, _⟩ := q
          have h1 := List.mem_of_find?_eq_some hf
          have h2 := List.find?_some hf
          obtain ⟨n, hn1, hn2⟩ := List.mem_iff_getElem.mp h1
          obtain ⟨d', hd', hq, _⟩ := paired_get hp (by rw [List.getElem?_eq_getElem hn1, hn2])
          have h3 : kv.1 = Sum.inr (kf d) := of_decide_eq_true h2
          rw [hq] at h3
          have h4 : kf d' = kf d := Sum.inr.inj h3
          have hni : n < i := by
            have := (List.getElem?_eq_some_iff.mp hd').1
            rw [List.length_take] at this
            omega
          have hd2 : ds[n]? = some d' := by rw [List.getElem?_take_of_lt hni] at hd'; exact hd'
          have a1 : (ds.map kf)[n]? = some (kf d') := by rw [List.getElem?_map, hd2]; rfl
          have a2 : (ds.map kf)[i]? = some (kf d') := by rw [List.getElem?_map, hd, h4]; rfl
          have := nodup_ix hn a1 a2
          omega
      refine .inr ⟨go i H' hlt (e.trans off_le), fun H' => i + 1 ≤ ds.length ∧ Same H (off D H') ∧ ∃ kvs, H' D = some (.dK kvs) ∧ Paired (fun d (q : Key × V) => q.1 = Sum.inr (kf d) ∧ P d q.2 (off D H')) (ds.take (i + 1)) kvs, fun H' ⟨a, b⟩ => ⟨_, by omega, rfl, a, b⟩, fun x H2 y => ?_⟩
      refine turn i d D x H' H2 hd nD (by rw [hD]; simp) e y (fun y z H5 => ∃ kvs k, y = kV k ∧ H5 D = some (.dK kvs) ∧ kvs.length < sizeLine ∧ (i + 1 ≤ ds.length ∧ Same H (off D (upd H5 D (.dK (putK kvs k z)))) ∧ ∃ kvs', (upd H5 D (.dK (putK kvs k z))) D = some (.dK kvs') ∧ Paired (fun d (q : Key × V) => q.1 = Sum.inr (kf d) ∧ P d q.2 (off D (upd H5 D (.dK (putK kvs k z))))) (ds.take (i + 1)) kvs')) fun v H3 e3 hP => ?_
      refine ⟨kvs, Sum.inr (kf d), rfl, e3 _ _ hD, lt_line hly, hlt, ?_, _, upd_same, ?_⟩
      · rw [off_upd]; exact e.trans (off_mono e3)
      · rw [off_upd, putK_new _ hnew, List.take_add_one, hd]
        exact paired_snoc (paired_mono hp fun d q h => ⟨h.1, mono d q.2 _ _ (off_mono e3) h.2⟩) ⟨rfl, hP⟩
    · have ei : i = ds.length := by omega
      subst ei
      refine .inl ⟨stop H' (e.trans off_le), done D H' kvs nD e hD ?_⟩
      rw [List.take_length] at hp
      exact hp
/-- for target in J -/
theorem forG {tb : TS} {nx : L2.St → Hp → Prop} {rt : VK} (n : Nat) (Pv : Nat → L2.St → Hp → Prop) (h0 : Pv 0 σ H) (go : ∀ i σ H, i < n → Pv i σ H → J.go i H) (stop : ∀ σ H, Pv n σ H → J.stop n H)
    (hs : ∀ i x σ H H', i < n → Pv i σ H → J.yld i H x H' → g x σ H' fun σ2 H2 => tb { nx := Pv (i + 1), rt := rt, bk := nx, ct := Pv (i + 1) } σ2 H2) (hd : ∀ σ H, Pv n σ H → nx σ H) :
    ∃ W : Nat → Nat → L2.St → Hp → Prop, (∃ m, W 0 m σ H) ∧ ∀ i m σ H, W i m σ H →
      (J.stop i H ∧ nx σ H) ∨ (J.go i H ∧ ∃ N : L2.St → Hp → Prop, (∀ σ' H', N σ' H' → ∃ m', m' < m ∧ W (i + 1) m' σ' H') ∧ ∀ x H', J.yld i H x H' → g x σ H' fun σ2 H2 => tb { nx := N, rt := rt, bk := nx, ct := N } σ2 H2) := by
  refine ⟨fun i m σ H => m = n - i ∧ i ≤ n ∧ Pv i σ H, ⟨n, by simp, Nat.zero_le _, h0⟩, ?_⟩
  rintro i m σ H ⟨rfl, hi, p⟩
  by_cases hlt : i < n
  · exact .inr ⟨go i σ H hlt p, Pv (i + 1), fun σ' H' p' => ⟨n - (i + 1), by omega, rfl, hlt, p'⟩, fun x H' y => hs i x σ H H' hlt p y⟩
  · have e : i = n := by omega
    subst e
    exact .inl ⟨stop σ H p, hd σ H p⟩
end
theorem paired_bl {α : Type} {bf : α → Bool} {l : List α} {ys : List V} (h : Paired (fun d v => v = V.bl (bf d)) l ys) : ys = (l.map bf).map V.bl := by
  rw [paired_eq (r := fun d => V.bl (bf d)) h, List.map_map]; rfl
theorem paired_str {α : Type} {sf : α → Str} {l : List α} {ys : List V} (h : Paired (fun d v => v = V.str (sf d)) l ys) : ys = sL (l.map sf) := by
  rw [paired_eq (r := fun d => V.str (sf d)) h, sL, List.map_map]; rfl
/-- what a list yields -/
theorem itl_go {K : PySem.W.Frag} {a : Addr} {xs : List V} {i : Nat} {H : Hp} (h : SqL K H a xs) (hi : i < xs.length) : (Itl K a).go i H := ⟨xs, xs[i], h, List.getElem?_eq_getElem hi⟩
theorem itl_stop {K : PySem.W.Frag} {a : Addr} {xs : List V} {n : Nat} {H : Hp} (h : SqL K H a xs) (hi : xs.length = n) : (Itl K a).stop n H := ⟨xs, h, Nat.le_of_eq hi⟩
end Cw

/-! CwNum -/
set_option linter.all false
set_option Elab.async false
/-! Names, numbers of bits, addresses. Plain Lean. -/
namespace Cw
open PySem
/-- a name of one small letter -/
def NameOk (x : Str) : Prop := ∃ c : Nat, x = ⟨#[c]⟩ ∧ 97 ≤ c ∧ c ≤ 122
def val (l : List Nat) : Nat := l.foldl (fun a c => 2 * a + if c = 49 then 1 else 0) 0
theorem val_snoc (l : List Nat) (c : Nat) : val (l ++ [c]) = 2 * val l + if c = 49 then 1 else 0 := by simp [val, List.foldl_append]
theorem val_take {l : List Nat} {i c : Nat} (h : l[i]? = some c) : val (l.take (i + 1)) = 2 * val (l.take i) + if c = 49 then 1 else 0 := by
  rw [List.take_add_one, h]
  exact val_snoc _ _
theorem val_lt (l : List Nat) : val l < 2 ^ l.length := by
  have k : ∀ n, val (l.take n) < 2 ^ (l.take n).length := by
    intro n
    induction n with
    | zero => simp [val]
    | succ n ih =>
      cases e : l[n]? with
      | none =>
        have : l.take (n + 1) = l.take n := by rw [List.take_add_one, e]; simp
        rw [this]; exact ih
      | some c =>
        rw [val_take e, List.take_add_one, e]
        simp only [Option.toList_some, List.length_append, List.length_singleton, Nat.pow_succ]
        split <;> omega
  have := k l.length
  rwa [List.take_length] at this
/-- the low i bits of n, the highest first -/
def lowL : Nat → Nat → List Nat
  | 0, _ => []
  | i + 1, n => (48 + n / 2 ^ i % 2) :: lowL i n
def adr (w n : Nat) : Str := ⟨(lowL w n).toArray⟩
theorem lowL_len (i n : Nat) : (lowL i n).length = i := by
  induction i with
  | zero => rfl
  | succ i ih => simp [lowL, ih]
theorem lowL_bit (i n : Nat) : ∀ c ∈ lowL i n, c = 48 ∨ c = 49 := by
  induction i with
  | zero => simp [lowL]
  | succ i ih =>
    intro c h
    rcases List.mem_cons.mp h with e | h
    · omega
    · exact ih c h
theorem adr_ok (w n : Nat) : IsAd w (adr w n) := by
  refine ⟨fun c h => lowL_bit w n c (by simpa [adr] using h), ?_⟩
  simp [adr, Str.length, lowL_len]

/-! ### last hops -/
def nxt (w : List (Str × Str)) (h : Str) : Str := (w.lookup h).getD h
def lastHop (w : List (Str × Str)) : Nat → Str → Str
  | 0, h => h
  | n + 1, h => nxt w (lastHop w n h)
theorem lookup_none {w : List (Str × Str)} {h : Str} (hh : h ∉ keys w) : w.lookup h = none := by
  induction w with
  | nil => rfl
  | cons p r ih =>
    obtain ⟨k, v⟩ := p
    simp only [keys, List.map_cons, List.mem_cons, not_or] at hh
    have : (h == k) = false := by simpa using hh.1
    simp only [List.lookup, this]
    exact ih hh.2
theorem nodup_lookup {w : List (Str × Str)} {h y : Str} (nd : (keys w).Nodup) (m : (h, y) ∈ w) : w.lookup h = some y := by
  induction w with
  | nil => simp at m
  | cons p r ih =>
    obtain ⟨k, v⟩ := p
    simp only [keys, List.map_cons, List.nodup_cons] at nd
    rcases List.mem_cons.mp m with e | m
    · cases e; simp [List.lookup]
    · have : (h == k) = false := by
        have : h ≠ k := fun z => nd.1 (by rw [← z]; exact List.mem_map.mpr ⟨_, m, rfl⟩)
        simpa using this
      simp only [List.lookup, this]
      exact ih nd.2 m
theorem perm_lookup {w w' : List (Str × Str)} (p : w.Perm w') (nd : (keys w').Nodup) (h : Str) : w.lookup h = w'.lookup h := by
  have nd' : (keys w).Nodup := (p.map _).nodup_iff.mpr nd
  by_cases m : h ∈ keys w'
  · obtain ⟨y, e, hy⟩ := lookup_mem m
    rw [e]
    exact nodup_lookup nd' (p.mem_iff.mpr hy)
  · rw [lookup_none m, lookup_none fun z => m ((p.map _).mem_iff.mp z)]
theorem last_end {it : Item} (hw : WayOk it) {h : Str} (hh : h ∈ keys it.wy ∨ h = it.kp) : lastHop it.wy it.wy.length h = it.kp := by
  have k : ∀ n, (lastHop it.wy n h ∈ keys it.wy ∨ lastHop it.wy n h = it.kp) ∧ it.rk (lastHop it.wy n h) ≤ it.wy.length - n := by
    intro n
    induction n with
    | zero =>
      refine ⟨hh, ?_⟩
      rcases hh with z | z
      · obtain ⟨y, _, m⟩ := lookup_mem z
        exact hw.le _ m
      · show it.rk h ≤ _
        rw [z, hw.rk0]; omega
    | succ n ih =>
      obtain ⟨i1, i2⟩ := ih
      show ((nxt it.wy (lastHop it.wy n h)) ∈ _ ∨ nxt it.wy (lastHop it.wy n h) = _) ∧ it.rk (nxt it.wy (lastHop it.wy n h)) ≤ _
      rcases i1 with z | z
      · obtain ⟨y, e, m⟩ := lookup_mem z
        have en : nxt it.wy (lastHop it.wy n h) = y := by unfold nxt; rw [e]; rfl
        rw [en]
        have d := hw.dn _ m
        simp only at d
        refine ⟨?_, by omega⟩
        rcases hw.val _ m with q | q
        · exact .inr q
        · exact .inl q
      · have en : nxt it.wy (lastHop it.wy n h) = it.kp := by
          unfold nxt
          rw [z, lookup_none hw.kp]; rfl
        rw [en]
        exact ⟨.inr rfl, by rw [hw.rk0]; omega⟩
  obtain ⟨h1, h2⟩ := k it.wy.length
  rcases h1 with z | z
  · exfalso
    obtain ⟨y, _, m⟩ := lookup_mem z
    have := hw.dn _ m
    simp only at this
    omega
  · exact z
end Cw

/-! CwK -/
set_option Elab.async false
set_option linter.all false
set_option maxRecDepth 100000
set_option maxHeartbeats 4000000
/-! The layer's rules with the written part told apart (within a comprehension's block it must not hang on the block). -/
namespace Cw
open PySem PySem.Spec PyProof.Rows L2
section
variable {X : Cx} (K : PySem.W.Frag)
theorem kpi_list {tg l : Expr} {tl : TE} (hl : PE X l tl) (hK : X.K = K := by rfl) : PI X tg l (iList K tl) := by subst hK; exact pi_list hl
theorem kpg_tup {es : List Expr} {k : Nat} {t : TGs} {n : Nat} {pos : Pos} (hc : X.calm = true) (h : PGs X es t)
    (hn : (assignEach es X.env).length = n := by rfl) (hst : (assignEach es X.env).findIdx? (·.1) = none := by rfl) (hK : X.K = K := by rfl) : PG X (.Tuple es k pos) (gTup K n t) := by subst hK; exact pg_tup hc h hn hst
theorem kpe_fld {e : Expr} {f : Str} {ta : TE} {pos : Pos} (he : PE X e ta) (hb : attributeBase e f X.env (eval e X.env) = eval e X.env) (hK : X.K = K := by rfl) : PE X (.Attribute e f pos) (tFld K ta f) := by subst hK; exact pe_fld he hb
theorem kpe_con {e : Expr} {f : Str} {ta : TE} {pos : Pos} (he : PE X e ta) (hb : attributeBase e f X.env (eval e X.env) = eval e X.env) (hK : X.K = K := by rfl) : PE X (.Attribute e f pos) (tCon K ta f) := by subst hK; exact pe_con he hb
theorem kcall_isi (hK : X.K = K := by rfl) : CallR X (.builtin "isinstance") (rIsi K) := by subst hK; exact call_isi
theorem kcall_isiT (hK : X.K = K := by rfl) : CallR X (.builtin "isinstance") (rIsiT K) := by subst hK; exact call_isiT
theorem kix_list (hK : X.K = K := by rfl) : IxR X (rIxL K) := by subst hK; exact ix_list
theorem kix_tup (hK : X.K = K := by rfl) : IxR X (rIxT K) := by subst hK; exact ix_tup
theorem kop_in_seq (hK : X.K = K := by rfl) : OpR X (compareOp .In) (rIn K false) := by subst hK; exact op_in_seq
theorem kop_notIn_seq (hK : X.K = K := by rfl) : OpR X (compareOp .NotIn) (rIn K true) := by subst hK; exact op_notIn_seq
theorem kop_inD (hu : X.A.units + 65 < cLine) (hK : X.K = K := by rfl) : OpR X (compareOp .In) (rInD K) := by subst hK; exact op_inD hu
theorem kop_eqD (hu : X.A.units + 64 < cLine) (hK : X.K = K := by rfl) : OpR X (compareOp .Eq) (rEqD K) := by subst hK; exact op_eqD hu
theorem kop_neD (hu : X.A.units + 64 < cLine) (hK : X.K = K := by rfl) : OpR X (compareOp .NotEq) (rNeD K) := by subst hK; exact op_neD hu
theorem kcr_all (hc : X.calm = true) (hK : X.K = K := by rfl) : CallR X (.builtin "all") (rAll K) := by subst hK; exact cr_all hc
theorem kcr_any (hc : X.calm = true) (hK : X.K = K := by rfl) : CallR X (.builtin "any") (rAny K) := by subst hK; exact cr_any hc
theorem kcr_sortedS (hK : X.K = K := by rfl) : CallR X (.builtin "sorted") (rSortedS K) := by subst hK; exact cr_sortedS
theorem kcall_len_seq (hK : X.K = K := by rfl) : CallR X (.builtin "len") (fun xs H Q => ∃ p ys, xs = [.ref p] ∧ (SqL K H p ys ∨ SqT K H p ys) ∧ Q (.int ys.length) H) := by subst hK; exact call_len_seq
theorem kcall_list_of (hK : X.K = K := by rfl) : CallR X (.type "list") (fun xs H Q => ∃ p ys, xs = [.ref p] ∧ (SqL K H p ys ∨ SqT K H p ys) ∧ ∀ l, H l = none → Q (.ref l) (upd H l (.lst ys))) := by subst hK; exact call_list_of
theorem ksl_list (hK : X.K = K := by rfl) : SlR X (rSlL K) := by subst hK; exact sl_list
theorem kmt_index (hK : X.K = K := by rfl) : MtR X "list.index" (rIndex K) := by subst hK; exact mt_index
theorem kcall_dictP (hc : X.calm = true) (hK : X.K = K := by rfl) : CallR X (.type "dict") (fun xs H Q => ∃ (a : Addr) (ps : List Addr) (kvs : List (Key × V)), xs = [.ref a] ∧ SqL K H a (ps.map V.ref) ∧ Paired (fun p kv => SqT K H p [kV kv.1, kv.2]) ps kvs ∧
    ∀ p, H p = none → Q (.ref p) (upd H p (.dK (mergeK [] kvs)))) := by subst hK; exact call_dictP hc
theorem kpi_enum {e : Expr} {ta : TA} {p pos tpos : Pos} {elts : List Expr} {kk : Nat} (hg : Gl X "enumerate") (hm : X.mg "enumerate" = none) (ha : PA X [e] ta) (hs : starEach [e] X.env = [(false, eval e X.env)] := by rfl) (hK : X.K = K := by rfl) :
    PI X (.Tuple elts kk tpos) (.Call (.Name "enumerate" p) [e] [] pos) (iEnum K ta) := by subst hK; exact pi_enum hg hm ha hs
theorem kpe_bm {o e : Expr} {es : List Expr} {to : TE} {t : TA} {name : Str} {apos cpos : Pos} {T id : String} {r : V → List V → Hp → VK → Prop} (pa : PlainAttrs T) (slot : Slot T name id) (hty : typeOf (.builtin id) = pure (.type "method_descriptor")) (hm : MtR X id r) (ho : PE X o to) (ha : PA X (e :: es) t)
    (hbase : attributeBase o name X.env (eval o X.env) = eval o X.env := by rfl)
    (hfew : ((backTo cpos (starEach (e :: es) X.env)).all (fun x => !x.1) && (backToKw cpos (keywordEach [] X.env)).all (fun x => x.1.isSome)
      && decide ((e :: es).length + ([] : List Keyword).length + (if ([] : List Keyword).isEmpty then 0 else 1) < 30)) = true := by rfl)
    (hline : (apos.endLine == cpos.line) = true := by rfl)
    (he : starEach (e :: es) X.env = (false, eval e X.env) :: starEach es X.env := by rfl) (hpl : (backTo cpos (starEach es X.env)).any (·.1) = false := by rfl) (hK : X.K = K := by rfl) :
    PE X (.Call (.Attribute o name apos) (e :: es) [] cpos) (tBM K T r to t) := by subst hK; exact pe_bm pa slot hty hm ho ha hbase hfew hline he hpl
theorem kpe_bm0 {o : Expr} {to : TE} {name : Str} {apos cpos : Pos} {T id : String} {r : V → List V → Hp → VK → Prop} (pa : PlainAttrs T) (slot : Slot T name id) (hty : typeOf (.builtin id) = pure (.type "method_descriptor")) (hm : MtR X id r) (ho : PE X o to)
    (hbase : attributeBase o name X.env (eval o X.env) = eval o X.env := by rfl) (hline : (apos.endLine == cpos.line) = true := by rfl) (hK : X.K = K := by rfl) :
    PE X (.Call (.Attribute o name apos) [] [] cpos) (tBM0 K T r to) := by subst hK; exact pe_bm0 pa slot hty hm ho hbase hline
theorem kpe_join {o e : Expr} {to te : TE} {apos pos : Pos} (ho : PE X o to) (he : PE X e te) (hs : starEach [e] X.env = [(false, eval e X.env)] := by rfl) (hbase : attributeBase o "join" X.env (eval o X.env) = eval o X.env := by rfl) (hline : (apos.endLine == pos.line) = true := by rfl) (hK : X.K = K := by rfl) :
    PE X (.Call (.Attribute o "join" apos) [e] [] pos) (tM1 (fun x xs H Q => ∃ a p, ∃ ys : List Str, x = .str a ∧ xs = [.ref p] ∧ (SqL K H p (ys.map V.str) ∨ SqT K H p (ys.map V.str)) ∧
      (ys.map (·.length)).sum + ys.length * a.length ≤ 16777216 ∧ Q (.str (Txt.join a ys)) H) to te) := by subst hK; exact pe_join ho he hs hbase hline
end
theorem pe_sw {X : Cx} {o e : Expr} {to te : TE} {apos pos : Pos} (ho : PE X o to) (he : PE X e te) (hs : starEach [e] X.env = [(false, eval e X.env)] := by rfl) (hbase : attributeBase o "startswith" X.env (eval o X.env) = eval o X.env := by rfl) (hline : (apos.endLine == pos.line) = true := by rfl) :
    PE X (.Call (.Attribute o "startswith" apos) [e] [] pos) (tM1 (fun x xs H Q => ∃ a b, x = .str a ∧ xs = [.str b] ∧ Q (.bl (Txt.startswith a b)) H) to te) :=
  pe_m1 F.slot_str_startswith F.type_str_startswith mt_startswith ho he hs hbase hline
/-- len of a dict, locked or not -/
theorem call_lenR {X : Cx} : CallR X (.builtin "len") (fun xs H Q => ∃ a kvs, xs = [V.ref a] ∧ Rd H a (.dK kvs) ∧ Q (.int kvs.length) H) := by
  intro pins s σ H xs us Q I r h
  obtain ⟨a, kvs, rfl, ha, q⟩ := h
  obtain ⟨u, rfl, ru⟩ := vals1 r
  cases ru
  exact d_len I ha fun t s' I' => ⟨.int kvs.length, H, I', ⟨t, rfl⟩, q⟩
/-- a locked dict's place, unlocked -/
theorem unlock {H H' : Hp} {d : Addr} {o : Obj} {u : HO} (h : H d = some u) (e : Same (upd H d (.frz o u)) H') : Same H (upd H' d u) := fun b v eb => by
  by_cases z : b = d
  · rw [z] at eb ⊢; rw [h] at eb; rw [upd_same]; exact eb
  · rw [upd_ne z]
    exact e b v (by rw [upd_ne z]; exact eb)
theorem locked {H H' : Hp} {d : Addr} {o : Obj} {u : HO} (e : Same (upd H d (.frz o u)) H') : H' d = some (.frz o u) := e _ _ upd_same
/-- what is tracked elsewhere than at a locked dict -/
theorem lock_off {H : Hp} {d : Addr} {o : Obj} {u : HO} : Same (off d H) (upd H d (.frz o u)) := fun b v eb => by
  by_cases z : b = d
  · rw [z, off_at] at eb; cases eb
  · rw [off_ne z] at eb; rw [upd_ne z]; exact eb
theorem valV_dk (w : List (Str × Str)) (h : Str) : valV (dk w) (Sum.inr h : Key) = (w.lookup h).map V.str := by
  induction w with
  | nil => rfl
  | cons p r ih =>
    obtain ⟨k, v⟩ := p
    unfold valV dk at ih ⊢
    by_cases e : h = k
    · subst e
      simp [List.lookup]
    · have e1 : (h == k) = false := by simpa using e
      have e2 : decide ((Sum.inr k : Key) = Sum.inr h) = false := decide_eq_false fun z => e (Sum.inr.inj z).symm
      simp only [List.map_cons, List.find?_cons, e2, List.lookup, e1]
      exact ih
end Cw

/-! CwPlain -/
set_option linter.all false
set_option Elab.async false
/-! Nets that the package takes; what its loops compute. Plain Lean. -/
namespace Cw
open PySem PySem.Spec PyProof.Rows L2
theorem sw_pre (x y : Str) : Txt.startswith x y = true ↔ pre y x := by
  unfold Txt.startswith
  rw [StrLaws.subAt_eq, List.drop_zero, Bool.and_eq_true, decide_eq_true_iff, beq_iff_eq]
  unfold pre
  constructor
  · rintro ⟨h1, h2⟩
    rw [← h2]
    exact List.take_prefix _ _
  · intro h
    have hl := h.length_le
    refine ⟨by simpa [Str.length] using hl, ?_⟩
    have := List.prefix_iff_eq_take.mp h
    rw [show y.length = y.cps.toList.length by simp [Str.length]]
    exact this.symm
instance (y x : Str) : Decidable (pre y x) := decidable_of_iff _ (sw_pre x y)
theorem sw_dec (x y : Str) : Txt.startswith x y = decide (pre y x) := by
  rw [Bool.eq_iff_iff, sw_pre, decide_eq_true_iff]
end Cw

/-! CwCells -/
set_option linter.all false
set_option Elab.async false
/-! Cells: a stretch's part that no longer one covers. Plain Lean. -/
namespace Cw
open PySem PySem.Spec PyProof.Rows
def Bits (l : List Nat) : Prop := ∀ c ∈ l, c = 48 ∨ c = 49
theorem val_from (y : List Nat) : ∀ a : Nat, y.foldl (fun a c => 2 * a + if c = 49 then 1 else 0) a = a * 2 ^ y.length + val y := by
  induction y with
  | nil => intro a; simp [val]
  | cons c r ih =>
    intro a
    unfold val
    rw [List.foldl_cons, List.foldl_cons, ih, ih (2 * 0 + _), List.length_cons, Nat.pow_succ]
    rw [Nat.add_mul, Nat.add_mul, Nat.mul_comm 2 a, Nat.mul_assoc]
    rw [show 2 * 2 ^ r.length = 2 ^ r.length * 2 from Nat.mul_comm _ _]
    omega
theorem val_append (x y : List Nat) : val (x ++ y) = val x * 2 ^ y.length + val y := by
  unfold val
  rw [List.foldl_append, val_from]; rfl
theorem val_cons (c : Nat) (l : List Nat) : val (c :: l) = (if c = 49 then 1 else 0) * 2 ^ l.length + val l := by
  have := val_append [c] l
  rw [List.singleton_append] at this
  rw [this]
  simp [val]
theorem val_inj : ∀ {x y : List Nat}, Bits x → Bits y → x.length = y.length → val x = val y → x = y
  | [], [], _, _, _, _ => rfl
  | [], _ :: _, _, _, h, _ => by simp at h
  | _ :: _, [], _, _, h, _ => by simp at h
  | a :: x, b :: y, hx, hy, h, e => by
    have hl : x.length = y.length := by simpa using h
    rw [val_cons, val_cons, hl] at e
    have l1 := val_lt x
    have l2 := val_lt y
    rw [hl] at l1
    have ha := hx a (by simp)
    have hb := hy b (by simp)
    have hab : a = b := by
      rcases ha with rfl | rfl <;> rcases hb with rfl | rfl <;> simp at e ⊢ <;> omega
    subst hab
    have : val x = val y := by omega
    rw [val_inj (fun c h => hx c (List.mem_cons_of_mem _ h)) (fun c h => hy c (List.mem_cons_of_mem _ h)) hl this]
theorem val_low (i n : Nat) : val (lowL i n) = n % 2 ^ i := by
  induction i with
  | zero => simp [lowL, val, Nat.mod_one]
  | succ i ih =>
    rw [lowL, val_cons, lowL_len, ih, Nat.mod_pow_succ]
    rcases (show n / 2 ^ i % 2 = 0 ∨ n / 2 ^ i % 2 = 1 by omega) with h | h <;> rw [h] <;> simp <;> omega
/-- begin and end -/
def bg (w : Nat) (z : Str) : Nat := val (cl z) * 2 ^ (w - z.length)
def en (w : Nat) (z : Str) : Nat := (val (cl z) + 1) * 2 ^ (w - z.length)
def sz (w : Nat) (z : Str) : Nat := 2 ^ (w - z.length)
theorem bg_sz (w : Nat) (z : Str) : bg w z + sz w z = en w z := by unfold bg en sz; rw [Nat.add_mul, Nat.one_mul]
theorem cl_length (z : Str) : (cl z).length = z.length := by simp [cl, Str.length]
def StOk (w : Nat) (z : Str) : Prop := isBits z ∧ z.length ≤ w
theorem pre_iff {w : Nat} {z a : Str} (hz : StOk w z) (ha : IsAd w a) : pre z a ↔ bg w z ≤ val (cl a) ∧ val (cl a) < en w z := by
  obtain ⟨hb, hl⟩ := hz
  obtain ⟨ab, al⟩ := ha
  have ez : (cl z).length = z.length := cl_length z
  have ea : (cl a).length = w := by rw [cl_length]; exact al
  unfold pre bg en
  constructor
  · rintro ⟨r, er⟩
    have er : cl z ++ r = cl a := er
    have lr : r.length = w - z.length := by
      have := congrArg List.length er
      rw [List.length_append, ez, ea] at this
      omega
    rw [← er, val_append, lr]
    have := val_lt r
    rw [lr] at this
    rw [Nat.add_mul, Nat.one_mul]
    omega
  · rintro ⟨h1, h2⟩
    have e := List.take_append_drop z.length (cl a)
    have lt : ((cl a).take z.length).length = z.length := by rw [List.length_take, ea]; omega
    have ld : ((cl a).drop z.length).length = w - z.length := by rw [List.length_drop, ea]
    have v : val (cl a) = val ((cl a).take z.length) * 2 ^ (w - z.length) + val ((cl a).drop z.length) := by
      conv => lhs; rw [← e]
      rw [val_append, ld]
    have d := val_lt ((cl a).drop z.length)
    rw [ld] at d
    have hv : val ((cl a).take z.length) = val (cl z) := by
      rw [v] at h1 h2
      rcases Nat.lt_trichotomy (val ((cl a).take z.length)) (val (cl z)) with h | h | h
      · exfalso
        have := Nat.mul_le_mul_right (2 ^ (w - z.length)) (Nat.succ_le_of_lt h)
        rw [Nat.succ_mul] at this
        omega
      · exact h
      · exfalso
        have := Nat.mul_le_mul_right (2 ^ (w - z.length)) (Nat.succ_le_of_lt h)
        rw [Nat.succ_eq_add_one] at this
        omega
    have := val_inj (x := (cl a).take z.length) (y := cl z) (fun c h => ab c (List.mem_of_mem_take h)) hb (by rw [lt, ez]) hv
    exact ⟨(cl a).drop z.length, by
      show cl z ++ _ = cl a
      rw [← this]; exact e⟩
theorem in_sub {w : Nat} {s t : Str} (hs : s.length ≤ w) (ht : t.length ≤ w) (h : pre s t) : bg w s ≤ bg w t ∧ en w t ≤ en w s := by
  obtain ⟨r, er⟩ := h
  have er : cl s ++ r = cl t := er
  have lr : t.length = s.length + r.length := by
    have := congrArg List.length er
    rw [List.length_append, cl_length, cl_length] at this
    omega
  unfold bg en
  have ev : val (cl t) = val (cl s) * 2 ^ r.length + val r := by rw [← er, val_append]
  have d := val_lt r
  have ep : 2 ^ (w - s.length) = 2 ^ r.length * 2 ^ (w - t.length) := by rw [← Nat.pow_add]; congr 1; omega
  rw [ev, ep, ← Nat.mul_assoc, ← Nat.mul_assoc]
  refine ⟨Nat.mul_le_mul_right _ (Nat.le_add_right _ _), Nat.mul_le_mul_right _ ?_⟩
  rw [Nat.add_mul (val (cl s)), Nat.one_mul]
  omega
theorem lt_split : ∀ {t y : List Nat}, Bits t → Bits y → ltCps t y = true → ¬ t <+: y → ∃ p t' y', t = p ++ 48 :: t' ∧ y = p ++ 49 :: y'
  | [], _, _, _, _, h => absurd (List.nil_prefix) h
  | _ :: _, [], _, _, h, _ => by simp [ltCps] at h
  | a :: r, b :: u, hx, hy, h, hp => by
    simp only [ltCps, Bool.or_eq_true, decide_eq_true_eq, Bool.and_eq_true, beq_iff_eq] at h
    rcases h with h | ⟨e, h⟩
    · refine ⟨[], r, u, ?_, ?_⟩
      · rcases hx a (by simp) with z | z
        · rw [z]; rfl
        · rcases hy b (by simp) with q | q <;> omega
      · rcases hy b (by simp) with z | z
        · rcases hx a (by simp) with q | q <;> omega
        · rw [z]; rfl
    · subst e
      obtain ⟨p, t', y', e1, e2⟩ := lt_split (fun c h => hx c (List.mem_cons_of_mem _ h)) (fun c h => hy c (List.mem_cons_of_mem _ h)) h (fun z => hp (List.cons_prefix_cons.mpr ⟨rfl, z⟩))
      exact ⟨a :: p, t', y', by rw [e1]; rfl, by rw [e2]; rfl⟩
theorem apart {w : Nat} {t y : Str} (ht : StOk w t) (hy : StOk w y) (h : ltCps (cl t) (cl y) = true) (hp : ¬ pre t y) : en w t ≤ bg w y := by
  obtain ⟨p, t', y', e1, e2⟩ := lt_split ht.1 hy.1 h hp
  have e1 : cl t = p ++ 48 :: t' := e1
  have e2 : cl y = p ++ 49 :: y' := e2
  have l1 : t.length = p.length + (t'.length + 1) := by rw [← cl_length, e1]; simp
  have l2 : y.length = p.length + (y'.length + 1) := by rw [← cl_length, e2]; simp
  have v1 : val (cl t) = val p * 2 ^ (t'.length + 1) + val t' := by rw [e1, val_append, val_cons]; simp
  have v2 : val (cl y) = val p * 2 ^ (y'.length + 1) + (2 ^ y'.length + val y') := by rw [e2, val_append, val_cons]; simp
  have d1 := val_lt t'
  have h1 := ht.2
  have h2 := hy.2
  have q1 : val (cl t) + 1 ≤ (2 * val p + 1) * 2 ^ t'.length := by
    rw [v1, Nat.pow_succ, Nat.add_mul, Nat.one_mul]
    have : val p * (2 ^ t'.length * 2) = 2 * val p * 2 ^ t'.length := by rw [Nat.mul_comm (2 ^ t'.length) 2, ← Nat.mul_assoc, Nat.mul_comm (val p) 2]
    omega
  have q2 : (2 * val p + 1) * 2 ^ y'.length ≤ val (cl y) := by
    rw [v2, Nat.pow_succ, Nat.add_mul, Nat.one_mul]
    have : val p * (2 ^ y'.length * 2) = 2 * val p * 2 ^ y'.length := by rw [Nat.mul_comm (2 ^ y'.length) 2, ← Nat.mul_assoc, Nat.mul_comm (val p) 2]
    omega
  have p1 : 2 ^ t'.length * 2 ^ (w - t.length) = 2 ^ (w - p.length - 1) := by rw [← Nat.pow_add]; congr 1; omega
  have p2 : 2 ^ y'.length * 2 ^ (w - y.length) = 2 ^ (w - p.length - 1) := by rw [← Nat.pow_add]; congr 1; omega
  unfold en bg
  refine Nat.le_trans (Nat.mul_le_mul_right _ q1) (Nat.le_trans ?_ (Nat.mul_le_mul_right _ q2))
  rw [Nat.mul_assoc, Nat.mul_assoc, p1, p2]
  exact Nat.le_refl _
theorem between : ∀ {t x y : List Nat}, t <+: y → ltCps x t = false → ltCps y x = false → t <+: x
  | [], _, _, _, _, _ => List.nil_prefix
  | a :: t, [], y, _, h, _ => by simp [ltCps] at h
  | a :: t, c :: x, [], h, _, _ => by simp at h
  | a :: t, c :: x, b :: y, h, h1, h2 => by
    obtain ⟨e, h3⟩ := List.cons_prefix_cons.mp h
    subst e
    simp only [ltCps, Bool.or_eq_false_iff, decide_eq_false_iff_not, Bool.and_eq_false_imp, beq_iff_eq] at h1 h2
    have e : a = c := by omega
    subst e
    exact List.cons_prefix_cons.mpr ⟨rfl, between h3 (h1.2 rfl) (h2.2 rfl)⟩
theorem pre_le_of : ∀ {t y : List Nat}, t <+: y → ltCps y t = false
  | [], [], _ => rfl
  | [], _ :: _, _ => rfl
  | a :: t, [], h => by simp at h
  | a :: t, b :: y, h => by
    obtain ⟨e, h3⟩ := List.cons_prefix_cons.mp h
    subst e
    simp only [ltCps, Bool.or_eq_false_iff, decide_eq_false_iff_not, Bool.and_eq_false_imp]
    exact ⟨by omega, fun _ => pre_le_of h3⟩
theorem pre_anti {s t : Str} (h : pre s t) (g : pre t s) : s = t := pre_eq (a := t) h (pre_refl t) (Nat.le_antisymm (pre_len h) (pre_len g))

/-! ### what a row says -/
def Cov (w : Nat) (S : List Str) (s : Str) (n : Nat) : Prop := ∃ t ∈ S, t ≠ s ∧ pre s t ∧ bg w t ≤ n ∧ n < en w t
def Rec (w : Nat) (S : List Str) (s : Str) (many : Int) (start : Nat) : Prop := ∃ cur g : Nat, bg w s ≤ cur ∧ cur ≤ en w s ∧ (∀ t ∈ S, t ≠ s → pre s t → en w t ≤ cur) ∧ (cur = bg w s ∨ ∃ t ∈ S, t ≠ s ∧ pre s t ∧ cur = en w t) ∧
  many = ((en w s - cur + g : Nat) : Int) ∧ (g = 0 → start = cur) ∧ (0 < g → bg w s ≤ start ∧ start < cur ∧ ¬ Cov w S s start) ∧ (∀ n, bg w s ≤ n → n < cur → ¬ Cov w S s n → 0 < g)
theorem cov_snoc {w : Nat} {S : List Str} {s y : Str} {n : Nat} : Cov w (S ++ [y]) s n ↔ Cov w S s n ∨ (y ≠ s ∧ pre s y ∧ bg w y ≤ n ∧ n < en w y) := by
  unfold Cov
  constructor
  · rintro ⟨t, ht, h⟩
    rcases List.mem_append.mp ht with z | z
    · exact .inl ⟨t, z, h⟩
    · rw [List.mem_singleton.mp z] at h; exact .inr h
  · rintro (⟨t, ht, h⟩ | h)
    · exact ⟨t, List.mem_append_left _ ht, h⟩
    · exact ⟨y, by simp, h⟩
theorem rec_new {w : Nat} {S : List Str} {s : Str} (h : ∀ t ∈ S, t ≠ s → ¬ pre s t) : Rec w S s (sz w s : Nat) (bg w s) := by
  have e := bg_sz w s
  refine ⟨bg w s, 0, Nat.le_refl _, by omega, fun t ht hn hp => absurd hp (h t ht hn), .inl rfl, by congr 1; omega, fun _ => rfl, fun z => by omega, fun n h1 h2 => by omega⟩
theorem rec_parent {w : Nat} {S : List Str} {s y : Str} {many : Int} {start : Nat} (hS : ∀ t ∈ S, StOk w t) (hy : StOk w y) (hs : s ∈ S) (hp : pre s y) (hn : y ∉ S) (hlt : ∀ t ∈ S, le t y) (hbig : ∀ t ∈ S, pre t y → pre t s) (r : Rec w S s many start) :
    Rec w (S ++ [y]) s (many - (sz w y : Nat)) (if start = bg w y then bg w y + sz w y else start) := by
  obtain ⟨cur, g, h1, h2, h3, h4, h5, h6, h7, h8⟩ := r
  have hsy : y ≠ s := fun z => hn (z ▸ hs)
  obtain ⟨s1, s2⟩ := in_sub (hS s hs).2 hy.2 hp
  have ey := bg_sz w y
  have pz : 0 < sz w y := Nat.two_pow_pos _
  have hc : cur ≤ bg w y := by
    rcases h4 with z | ⟨t, ht, hts, hst, z⟩
    · rw [z]; exact s1
    · rw [z]
      have hny : ¬ pre t y := fun q => hts (pre_anti (hbig t ht q) hst)
      refine apart (hS t ht) hy ?_ hny
      cases q : ltCps (cl t) (cl y) with
      | true => rfl
      | false => exact absurd (by rw [← le_anti (hlt t ht) q]; exact ht) hn
  have eq : (if start = bg w y then bg w y + sz w y else start) = if start = bg w y then en w y else start := by rw [ey]
  rw [eq]
  refine ⟨en w y, g + (bg w y - cur), by omega, s2, fun t ht hts hst => ?_, .inr ⟨y, by simp, hsy, hp, rfl⟩, ?_, fun hg => ?_, fun hg => ?_, fun n n1 n2 n3 => ?_⟩
  · rcases List.mem_append.mp ht with z | z
    · have := h3 t z hts hst; omega
    · rw [List.mem_singleton.mp z]; exact Nat.le_refl _
  · rw [h5]; omega
  · have : start = bg w y := by rw [h6 (by omega)]; omega
    rw [if_pos this]
  · by_cases g0 : g = 0
    · have hcs := h6 g0
      have hne : start ≠ bg w y := by omega
      rw [if_neg hne]
      refine ⟨by omega, by omega, fun c => ?_⟩
      rcases cov_snoc.mp c with ⟨t, ht, q1, q2, q3, q4⟩ | ⟨_, _, q3, q4⟩
      · have := h3 t ht q1 q2; omega
      · omega
    · obtain ⟨a1, a2, a3⟩ := h7 (by omega)
      rw [if_neg (by omega)]
      refine ⟨a1, by omega, fun c => ?_⟩
      rcases cov_snoc.mp c with c | ⟨_, _, q3, _⟩
      · exact a3 c
      · omega
  · by_cases hn1 : n < cur
    · have := h8 n n1 hn1 fun c => n3 (cov_snoc.mpr (.inl c))
      omega
    · by_cases hn2 : n < bg w y
      · omega
      · exact absurd (cov_snoc.mpr (.inr ⟨hsy, hp, by omega, n2⟩)) n3
theorem rec_other {w : Nat} {S : List Str} {s y : Str} {many : Int} {start : Nat} (h : (y = s ∨ ¬ pre s y) ∨ (∃ p ∈ S, p ≠ s ∧ pre s p ∧ bg w p ≤ bg w y ∧ en w y ≤ en w p)) (r : Rec w S s many start) : Rec w (S ++ [y]) s many start := by
  obtain ⟨cur, g, h1, h2, h3, h4, h5, h6, h7, h8⟩ := r
  have hcov : ∀ n, Cov w (S ++ [y]) s n → Cov w S s n := fun n c => by
    rcases cov_snoc.mp c with c | ⟨q1, q2, q3, q4⟩
    · exact c
    · rcases h with (h | h) | ⟨p, hp, a1, a2, a3, a4⟩
      · exact absurd h q1
      · exact absurd q2 h
      · exact ⟨p, hp, a1, a2, by omega, by omega⟩
  refine ⟨cur, g, h1, h2, fun t ht hts hst => ?_, ?_, h5, h6, fun hg => ?_, fun n n1 n2 n3 => h8 n n1 n2 fun c => n3 (cov_snoc.mpr (.inl c))⟩
  · rcases List.mem_append.mp ht with z | z
    · exact h3 t z hts hst
    · have ez := List.mem_singleton.mp z
      subst ez
      rcases h with (h | h) | ⟨p, hp, a1, a2, a3, a4⟩
      · exact absurd h hts
      · exact absurd hst h
      · have := h3 p hp a1 a2; omega
  · rcases h4 with z | ⟨t, ht, q⟩
    · exact .inl z
    · exact .inr ⟨t, List.mem_append_left _ ht, q⟩
  · obtain ⟨a1, a2, a3⟩ := h7 hg
    exact ⟨a1, a2, fun c => a3 (hcov _ c)⟩
theorem rec_yes {w : Nat} {S : List Str} {s : Str} {many : Int} {start : Nat} (r : Rec w S s many start) (hm : 0 < many) : bg w s ≤ start ∧ start < en w s ∧ ¬ Cov w S s start := by
  obtain ⟨cur, g, h1, h2, h3, h4, h5, h6, h7, h8⟩ := r
  by_cases g0 : g = 0
  · have hs := h6 g0
    have : cur < en w s := by omega
    refine ⟨by omega, by omega, fun ⟨t, ht, q1, q2, q3, q4⟩ => ?_⟩
    have := h3 t ht q1 q2
    omega
  · obtain ⟨a1, a2, a3⟩ := h7 (by omega)
    exact ⟨a1, by omega, a3⟩
theorem rec_has {w : Nat} {S : List Str} {s : Str} {many : Int} {start : Nat} (r : Rec w S s many start) {n : Nat} (n1 : bg w s ≤ n) (n2 : n < en w s) (n3 : ¬ Cov w S s n) : 0 < many := by
  obtain ⟨cur, g, h1, h2, h3, h4, h5, h6, h7, h8⟩ := r
  by_cases h : n < cur
  · have := h8 n n1 h n3; omega
  · omega
theorem bg_lt {w : Nat} {z : Str} (h : z.length ≤ w) : en w z ≤ 2 ^ w := by
  have d := val_lt (cl z)
  rw [cl_length] at d
  unfold en
  have e : 2 ^ w = 2 ^ z.length * 2 ^ (w - z.length) := by rw [← Nat.pow_add]; congr 1; omega
  rw [e]
  exact Nat.mul_le_mul_right _ (by omega)
theorem val_adr {w n : Nat} (h : n < 2 ^ w) : val (cl (adr w n)) = n := by
  show val (lowL w n).toArray.toList = n
  rw [List.toList_toArray, val_low, Nat.mod_eq_of_lt h]
/-- the row's address has the stretch's beginnings -/
theorem row_adr {w : Nat} {S : List Str} {s : Str} {many : Int} {start : Nat} (hS : ∀ t ∈ S, StOk w t) (hs : s ∈ S) (r : Rec w S s many start) (hm : 0 < many) : ∀ t ∈ S, (pre t (adr w start) ↔ pre t s) := by
  obtain ⟨h1, h2, h3⟩ := rec_yes r hm
  have hb := bg_lt (hS s hs).2
  have ev := val_adr (w := w) (n := start) (by omega)
  have ad := adr_ok w start
  have ps : pre s (adr w start) := (pre_iff (hS s hs) ad).mpr (by rw [ev]; exact ⟨h1, h2⟩)
  intro t ht
  constructor
  · intro h
    rcases Nat.le_total t.length s.length with l | l
    · exact pre_le h ps l
    · have hst := pre_le ps h l
      by_cases e : t = s
      · rw [e]; exact pre_refl s
      · exact absurd ⟨t, ht, e, hst, by have := (pre_iff (hS t ht) ad).mp h; rw [ev] at this; exact this⟩ h3
  · intro h; exact pre_trans h ps
/-- each address has the beginnings of some row's address -/
theorem adr_row {w : Nat} {S : List Str} (hS : ∀ t ∈ S, StOk w t) (h0 : ("" : Str) ∈ S) {a : Str} (ha : IsAd w a) : ∃ s ∈ S, pre s a ∧ (∀ t ∈ S, (pre t a ↔ pre t s)) ∧ ∀ {many : Int} {start : Nat}, Rec w S s many start → 0 < many := by
  have pe : pre "" a := List.nil_prefix
  have key : ∀ k, (∃ s ∈ S, pre s a ∧ s.length + k = a.length) → ∃ s ∈ S, pre s a ∧ ∀ t ∈ S, pre t a → t.length ≤ s.length := by
    intro k
    induction k using Nat.strongRecOn with
    | ind k ih =>
      rintro ⟨s, hs, hp, hk⟩
      by_cases h : ∃ t ∈ S, pre t a ∧ s.length < t.length
      · obtain ⟨t, ht, tp, tl⟩ := h
        have := pre_len tp
        exact ih (a.length - t.length) (by omega) ⟨t, ht, tp, by omega⟩
      · exact ⟨s, hs, hp, fun t ht tp => Nat.le_of_not_lt fun z => h ⟨t, ht, tp, z⟩⟩
  obtain ⟨s, hs, hp, hmax⟩ := key a.length ⟨"", h0, pe, by show 0 + _ = _; omega⟩
  refine ⟨s, hs, hp, fun t ht => ⟨fun h => pre_le h hp (hmax t ht h), fun h => pre_trans h hp⟩, fun {many start} r => ?_⟩
  have hi := (pre_iff (hS s hs) ha).mp hp
  refine rec_has r hi.1 hi.2 fun ⟨t, ht, q1, q2, q3, q4⟩ => ?_
  have tp := (pre_iff (hS t ht) ha).mpr ⟨q3, q4⟩
  exact q1 (pre_anti (pre_le tp hp (hmax t ht tp)) q2)
end Cw

/-! CwSet -/
set_option Elab.async false
set_option linter.all false
set_option maxRecDepth 100000
set_option maxHeartbeats 4000000
/-! A set of texts made of a list, and sorted. -/
namespace Cw
open PySem PySem.Spec PyProof.Rows L2 PySem.Froz
def SetS (P : Program) (w : World) (h : Heap) (a : Addr) (l : List Str) : Prop :=
  ∃ D : SD, h.get? a = some (sObj "set" D) ∧ TxOk P w D l ∧ l.Nodup ∧ Ris D.2.2.place.toList ∧ (w.params.followText "set-order" = true ∨ D.2.2.led = true)
theorem SetS.at {P : Program} {w : World} {h h' : Heap} {a : Addr} {l : List Str} (R : SetS P w h a l) (k : ∀ o, h.get? a = some o → h'.get? a = some o) : SetS P w h' a l := by
  obtain ⟨D, ho, r⟩ := R
  exact ⟨D, k _ ho, r⟩
theorem ris_tail {ep : Nat} {es : Array (Int × Value)} {t : SetTable} {d : Bool} (r : Ris t.place.toList) : Ris (tailTx ep es t d).2.2.place.toList := by
  unfold tailTx
  split
  · exact relayAll_ris _ _ _
  · exact r
theorem led_tail {ep : Nat} {es : Array (Int × Value)} {t : SetTable} {d : Bool} : (tailTx ep es t d).2.2.led = t.led := by
  unfold tailTx
  split
  · exact relayAll_led _ _ _
  · rfl
theorem ris_addTx {h : Int} {v : Value} {D : SD} (r : Ris D.2.2.place.toList) : Ris (addTx h v D).2.2.place.toList := by
  unfold addTx
  refine ris_tail ?_
  have := layNew_ris D.2.2 D.1 h v r
  split
  · exact this
  · exact this
theorem led_addTx {h : Int} {v : Value} {D : SD} : (addTx h v D).2.2.led = D.2.2.led := by
  unfold addTx
  rw [led_tail]
  have := layNew_led D.2.2 D.1 h v
  split
  · exact this
  · exact this
section
variable {P : Program} {w : World} {A : Around} {E : Value → Shared → Prop} {s : Shared}
theorem setS_add {a : Addr} {l : List Str} {k : Str} {u : Tok} {Q : Bool → Shared → Prop} (R : SetS P w s.heap a l) (hb : l.length + 1 < scanBound)
    (h : ∀ b h', Heap.SameBut a s.heap h' → SetS P w h' a (if k ∈ l then l else k :: l) → Q b { s with heap := h' }) : wpAny (model P w) A (setAddHashed a (.str k u) (hashStr w k)) Q E s := by
  obtain ⟨D, ho, F, nd, hr, hl⟩ := R
  by_cases hk : k ∈ l
  · rw [if_pos hk] at h
    have h1 := h false s.heap (Heap.SameBut.refl a s.heap) ⟨D, ho, F, nd, hr, hl⟩
    have h2 := h true s.heap (Heap.SameBut.refl a s.heap) ⟨D, ho, F, nd, hr, hl⟩
    obtain ⟨es, ep, t⟩ := D
    have lim : es.size < scanBound := by have : es.size = l.length := F.sz; omega
    have ik : (strKind P w).is k (.str k u) = true := is_str k u
    unfold setAddHashed setAddHashedIn
    refine wpAny_holding (wpAny_bind (wpAny_setState_of ho (show (sObj "set" (es, ep, t)).data = .set es ep t from rfl) F.fit ?_))
    dsimp only
    rw [byScan_of (show (Value.str k u).scannable = true from rfl) lim F.el]
    simp only [↓reduceIte]
    unfold setAddByScan
    refine wpAny_bind (wpAny_bind (wpAny_rule (wpAny_bind (wpAny_setScan_of (knd := strKind P w) (k := k) ik ho (show (sObj "set" (es, ep, t)).data = .set es ep t from rfl) F.fit F.el ?_))))
    cases hfi : List.findIdx? (fun e => (strKind P w).is k e.2) es.toList with
    | none =>
      obtain ⟨e, he, q⟩ := (F.mem k).mp hk
      have := List.findIdx?_eq_none_iff.mp hfi e he
      rw [q] at this
      cases this
    | some j =>
      dsimp only
      exact wpAny_pure (wpAny_pure h1)
  · rw [if_neg hk] at h
    refine add_x ho F hk hb (h true _ (Heap.SameBut.update s.heap a _) ⟨_, get_upd _ ho rfl, add_ok u F, List.nodup_cons.mpr ⟨hk, nd⟩, ris_addTx hr, ?_⟩)
    rw [led_addTx]; exact hl
end
/-- the unlike ones met -/
def metS (ss : List Str) : List Str := ss.foldl (fun l k => if k ∈ l then l else k :: l) []
theorem metS_snoc (ss : List Str) (k : Str) : metS (ss ++ [k]) = if k ∈ metS ss then metS ss else k :: metS ss := by unfold metS; rw [List.foldl_append]; rfl
theorem metS_take {ss : List Str} {i : Nat} {k : Str} (h : ss[i]? = some k) : metS (ss.take (i + 1)) = if k ∈ metS (ss.take i) then metS (ss.take i) else k :: metS (ss.take i) := by
  rw [List.take_add_one, h]; exact metS_snoc _ _
theorem metS_facts (ss : List Str) : ∀ n, (∀ z, z ∈ metS (ss.take n) ↔ z ∈ ss.take n) ∧ (metS (ss.take n)).Nodup ∧ (metS (ss.take n)).length ≤ n := by
  intro n
  induction n with
  | zero => simp [metS]
  | succ n ih =>
    cases e : ss[n]? with
    | none =>
      have : ss.take (n + 1) = ss.take n := by rw [List.take_add_one, e]; simp
      rw [this]
      exact ⟨ih.1, ih.2.1, by have := ih.2.2; omega⟩
    | some k =>
      rw [metS_take e, List.take_add_one, e]
      obtain ⟨i1, i2, i3⟩ := ih
      split
      · rename_i hk
        refine ⟨fun z => ?_, i2, by omega⟩
        rw [i1]
        simp only [Option.toList_some, List.mem_append, List.mem_singleton]
        exact ⟨.inl, fun q => q.elim id fun q => by rw [q]; exact (i1 k).mp hk⟩
      · rename_i hk
        refine ⟨fun z => ?_, List.nodup_cons.mpr ⟨hk, i2⟩, by simp; omega⟩
        rw [List.mem_cons, i1]
        simp only [Option.toList_some, List.mem_append, List.mem_singleton]
        exact Or.comm
section
variable {prog : Program} {w : World} {A : Around} {R : Result → Shared → Prop} {I : Addr} {fp wr : List Addr} {G : Array GenState → Array GenState → Prop} {n : Nat} {V0 : Nat → Value → Prop} {St : Nat → Shared → Prop}
theorem set_loopS (W : WalksS prog w A.in1 I fp wr G n V0 St) (S : Addr) (hSf : S ∉ fp) (ss : List Str) (hval : ∀ i v, V0 i v → ∃ k t, ss[i]? = some k ∧ v = .str k t) (hb : n + 1 < scanBound) :
    ∀ (k i : Nat) (s : Shared), n - i = k → i ≤ n → St i s → SetS prog w s.heap S (metS (ss.take i)) →
      (∀ s', Moved (S :: wr) G s s' → SetS prog w s'.heap S (metS (ss.take n)) → R (.ok (.ret .none)) s') → codeAny (model prog w) A (.builtin "set.update.loop" ⟨[.ref S, .ref I], []⟩) R s := by
  have nw : S ∉ wr := fun z => hSf (W.sub _ z)
  have up : ∀ b ∈ wr, b ∈ S :: wr := fun b z => List.mem_cons_of_mem _ z
  intro k
  induction k with
  | zero =>
    intro i s e1 e2 st hS fin
    obtain rfl : i = n := by omega
    refine codeAny_builtin F.entry_set_update_loop ?_
    rw [Around.under_plainId F.plain_set_update_loop _]
    refine wpAny_bind (m := pyNext (.ref I)) (W.done s _ _ st fun s' mv => ?_)
    exact wpAny_pure (fin s' (mv.mono up) (hS.at fun o ho => mv.heap S o nw ho))
  | succ k ih =>
    intro i s e1 e2 st hS fin
    have lt : i < n := by omega
    refine codeAny_builtin F.entry_set_update_loop ?_
    rw [Around.under_plainId F.plain_set_update_loop _]
    refine wpAny_bind (m := pyNext (.ref I)) (W.item i s _ _ lt st fun v s' hv st' mv => ?_)
    obtain ⟨z, t, hz, rfl⟩ := hval i v hv
    have hS1 : SetS prog w s'.heap S (metS (ss.take i)) := hS.at fun o ho => mv.heap S o nw ho
    refine wpAny_bind (m := holding [Value.str z t] (setAdd S (.str z t))) (wpAny_holding ?_)
    unfold setAdd
    refine wpAny_holding (wpAny_bind ((strKind prog w).pyHash (k := z) (is_str z t) ?_))
    have room := (metS_facts ss i).2.2
    refine setS_add (s := { s' with toks := s'.toks + 1 }) hS1 (by omega) fun b h' sb hS2 => ?_
    rw [← metS_take hz] at hS2
    refine wpAny_pure ⟨plainId_quiet F.plain_set_update_loop _, ih (i + 1) _ (by omega) lt (W.frame _ s' _ _ st' (Nat.le_succ _) fun c hc o e => ?_) hS2 fun s2 m2 hS3 => ?_⟩
    · exact (sb.2 c fun q : c = S => hSf (q ▸ hc)).trans e
    · refine fin s2 (Moved.trans W.gtrans ((mv.mono up).then_heap (Nat.le_succ _) fun c o hc e => ?_) m2) hS3
      exact (sb.2 c fun q : c = S => hc (q ▸ List.mem_cons_self)).trans e
end
abbrev set0 (w : World) : Obj := { cls := .type "set", dict := none, data := .set #[] 0 (.fresh 0 0 (!w.params.followText "set-order")) }
theorem set0_ok {P : Program} {w : World} {h : Heap} {a : Addr} (e : h.get? a = some (set0 w)) : SetS P w h a [] :=
  ⟨(#[], 0, .fresh 0 0 (!w.params.followText "set-order")), e, TxOk.nil (by rfl), List.nodup_nil, List.Pairwise.nil, by
    show _ ∨ (!w.params.followText "set-order") = true
    cases w.params.followText "set-order"
    · exact .inr rfl
    · exact .inl rfl⟩
section
variable {P : Program} {w : World} {A : Around} {E : Value → Shared → Prop} {s : Shared}
theorem set_new1 (a : Value) {Q : Value → Shared → Prop} (h : Q (.ref s.heap.objs.size) { s with heap := s.heap.push (set0 w) }) : codeAny (model P w) A (.call (.builtin "set.__new__") ⟨[.type "set", a], []⟩) (wants Q E) s := by
  refine codeAny_of_tree ?_
  refine wpAny_bind (m := checkBuiltinCall "set.__new__" ⟨[.type "set", a], []⟩) (wpAny_of_eq (F.newCall_set_1 a) (wpAny_pure ⟨plainId_quiet F.plain_set_new _, codeAny_builtin F.entry_set_new ?_⟩))
  rw [Around.under_plainId F.plain_set_new _]
  unfold Builtin.«set.__new__» Builtin.Frozenset.newClass
  have own := sub_set_self
  obtain ⟨hp, g, d, tk, os⟩ := s
  dsimp only
  wp_walk
  refine wpAny_askSetting (wpAny_pure ?_)
  dsimp only
  simp only [newObj]
  exact wpAny_bind (wpAny_alloc (wpAny_pure (wpAny_pure h)))
theorem strs_at : ∀ {us : List Value} {ss : List Str}, Vals (ss.map V.str) us → ∀ (i : Nat) (v : Value), us[i]? = some v → ∃ k t, ss[i]? = some k ∧ v = .str k t
  | _, [], .nil, i, v, h => by simp at h
  | _, x :: _, .cons r _, 0, v, h => by
    obtain ⟨t, rfl⟩ := r
    simp at h
    exact ⟨x, t, rfl, h.symm⟩
  | _, _ :: ss, .cons _ q, i + 1, v, h => by simpa using strs_at (ss := ss) q i v (by simpa using h)
/-- set(l), l a list of texts -/
theorem call_setS {l : Addr} {its : Array Value} {ss : List Str} {Q : Value → Shared → Prop} (hh : A.handled = none) (hl : s.heap.IsList l its) (hv : Vals (ss.map V.str) its.toList) (hb : its.size + 1 < scanBound)
    (fin : ∀ (h' : Heap) (tk : Nat), SetS P w h' s.heap.objs.size (metS ss) → (∀ b o, b < s.heap.objs.size → s.heap.get? b = some o → h'.get? b = some o) → s.heap.objs.size < h'.objs.size → Q (.ref s.heap.objs.size) { s with heap := h', toks := tk }) :
    wpAny (model P w) A (call (.type "set") [.ref l]) Q E s := by
  have es : ss.length = its.size := by have := hv.length; rw [List.length_map, Array.length_toList] at this; exact this
  obtain ⟨c, tl, hmro⟩ := F.called_set.mro
  have m1 := F.called_set.made
  have m2 := F.called_set.sub
  refine wpAny_call (codeAny_of_tree ?_)
  refine wpAny_pure (a := _) ⟨Code.quiet_builtin _ (by decide +kernel), codeAny_builtin F.entry_type_call ?_⟩
  rw [Around.under_plain (weight_type_call_type "set" [.ref l] []) rfl]
  have m3 := F.called_set.notType
  have m4 := F.called_set.canCreate
  have m5 := F.typeCall_set_1 (.ref l)
  repeat (any_goals (first | assumption | wp_step))
  refine codeAny_mono (set_new1 (P := P) (.ref l) (E := E) (Q := fun ob s₁ => ob = .ref s.heap.objs.size ∧ s₁ = { s with heap := s.heap.push (set0 w) }) ⟨rfl, rfl⟩) fun r s1 hr => ?_
  cases r with
  | error e => exact hr
  | ok f1 =>
  cases f1 with
  | next => exact hr.elim
  | brk => exact hr.elim
  | cont => exact hr.elim
  | ret ob =>
  obtain ⟨rfl, rfl⟩ := hr
  have at0 : (s.heap.push (set0 w)).get? s.heap.objs.size = some (set0 w) := Heap.get?_push_size _ rfl
  have ty0 : Shared.TypeIs { s with heap := s.heap.push (set0 w) } (.ref s.heap.objs.size) "set" := ⟨_, at0, rfl⟩
  have m6 := F.called_set.init.lookup
  have m7 := F.called_set.init.bind (.ref s.heap.objs.size)
  repeat (any_goals (first | assumption | wp_step))
  refine codeAny_mono (codeAny_call_builtin (R := wants (fun r s₂ => r = .none ∧ ∃ h' tk, s₂ = { s with heap := h', toks := tk } ∧ SetS P w h' s.heap.objs.size (metS ss) ∧ (∀ b o, b < s.heap.objs.size → s.heap.get? b = some o → h'.get? b = some o) ∧ s.heap.objs.size < h'.objs.size) E)
    F.called_set.init.plain F.entry_set_init (check_set_init_1 ty0 ?_)) fun r2 s2 hr2 => ?_
  · obtain ⟨⟨ocl, odi, oda, osl⟩, hol, hcl, nl, hdl⟩ := hl
    simp only at hcl hdl
    subst hcl; subst hdl
    have hol2 : (s.heap.push (set0 w)).get? l = some { cls := .type "list", dict := odi, data := .seq its nl, slots := osl } := Heap.get?_push_of_some _ hol
    have q1 := F.sub_list_set
    have q2 := F.sub_list_frozenset
    have q3 : (Value.type "list" == Value.type "dict") = false := by decide
    have lst1 : (s.heap.push (set0 w)).IsList l its := ⟨_, hol2, rfl, nl, rfl⟩
    unfold Builtin.«set.__init__» noKeywords Builtin.Frozenset.updateFrom
    generalize hPI : pyIter = PI
    wp_walk
    subst hPI
    refine wpAny_pyIter_list lst1 (wpAny_bind (wpAny_runValue ?_))
    have ll : l < s.heap.objs.size := Heap.lt_size hol
    have sz1 : (s.heap.push (set0 w)).objs.size = s.heap.objs.size + 1 := Heap.size_push ..
    have l2 : (l : Nat) < s.heap.objs.size := ll
    have ne1 : l ≠ (s.heap.push (set0 w)).objs.size := Nat.ne_of_lt (Nat.lt_of_lt_of_le l2 (by rw [sz1]; exact Nat.le_succ _))
    have nf : s.heap.objs.size ∉ [(s.heap.push (set0 w)).objs.size, l] := by
      rw [sz1]
      intro z
      rcases List.mem_cons.mp z with z | z
      · have z2 : (s.heap.objs.size : Nat) = s.heap.objs.size + 1 := z
        omega
      · have z2 : (s.heap.objs.size : Nat) = l := List.mem_singleton.mp z
        exact absurd z2 (Nat.ne_of_gt l2)
    have full : ss.take its.size = ss := by rw [← es]; exact List.take_length
    refine set_loopS ((Walks.list (show A.in1.in1.in1.handled = none by simp [hh]) _ l ne1 its).toS) s.heap.objs.size nf ss (fun i v hv2 => strs_at hv i v (by rw [Array.getElem?_toList]; exact hv2)) hb (its.size - 0) 0 _ (by omega) (Nat.zero_le _)
      ⟨⟨_, Heap.get?_push_size _ rfl, rfl, rfl⟩, (lst1.push _)⟩ (set0_ok (Heap.get?_push_of_some _ at0)) fun s3 mv hS => ?_
    rw [full] at hS
    obtain ⟨h3, g3, d3, t3, o3⟩ := s3
    obtain rfl : g3 = s.gens := mv.gens
    obtain rfl : d3 = s.drawn := mv.drawn
    obtain rfl : o3 = s.os := mv.os
    refine wpAny_pure (a := _) (wpAny_pure (a := _) ⟨rfl, h3, t3, rfl, hS, fun b o lb e => ?_, ?_⟩)
    · refine mv.heap b o (fun z => ?_) (Heap.get?_push_of_some _ (Heap.get?_push_of_some _ e))
      have lb2 : (b : Nat) < s.heap.objs.size := lb
      rcases List.mem_cons.mp z with z | z
      · have z2 : (b : Nat) = s.heap.objs.size := z
        omega
      · have z2 : (b : Nat) = (s.heap.push (set0 w)).objs.size := List.mem_singleton.mp z
        omega
    · obtain ⟨D, hD, _⟩ := hS
      exact Heap.lt_size hD
  · cases r2 with
    | error e => exact hr2
    | ok f2 =>
    cases f2 with
    | next => exact hr2.elim
    | brk => exact hr2.elim
    | cont => exact hr2.elim
    | ret r =>
    obtain ⟨rfl, h', tk, rfl, hS, hk, hz⟩ := hr2
    repeat (any_goals (first | assumption | wp_step))
    exact fin _ _ hS hk hz
theorem strs_keys : ∀ (vs : List Value), (∀ v ∈ vs, ∃ k t, v = Value.str k t) → ∃ zs, StrsAre vs zs ∧ (∀ z, z ∈ zs ↔ ∃ t, Value.str z t ∈ vs) ∧ zs.length = vs.length
  | [], _ => ⟨[], .nil, by simp, rfl⟩
  | v :: r, h => by
    obtain ⟨k, t, rfl⟩ := h v (by simp)
    obtain ⟨zs, h1, h2, h3⟩ := strs_keys r fun u hu => h u (List.mem_cons_of_mem _ hu)
    refine ⟨k :: zs, .cons k t h1, fun z => ?_, by simp [h3]⟩
    rw [List.mem_cons, h2]
    constructor
    · rintro (e | ⟨u, hu⟩)
      · exact ⟨t, by rw [e]; simp⟩
      · exact ⟨u, List.mem_cons_of_mem _ hu⟩
    · rintro ⟨u, hu⟩
      rcases List.mem_cons.mp hu with e | hu
      · injection e with e1 _; exact .inl e1
      · exact .inr ⟨u, hu⟩
theorem perm_of_nodup : ∀ {l m : List Str}, l.Nodup → (∀ x ∈ l, x ∈ m) → l.length = m.length → m.Perm l
  | [], m, _, _, h => by
    have : m = [] := List.length_eq_zero_iff.mp h.symm
    rw [this]
  | x :: l, m, nd, hs, hl => by
    have nd2 := List.nodup_cons.mp nd
    have hx := hs x (by simp)
    have p := List.perm_cons_erase hx
    have ih := perm_of_nodup (l := l) (m := m.erase x) nd2.2 (fun y hy => (List.mem_erase_of_ne (fun z : y = x => nd2.1 (z ▸ hy))).mpr (hs y (List.mem_cons_of_mem _ hy))) (by
      have := p.length_eq
      simp at this hl
      omega)
    exact p.trans (ih.cons x)
/-- sorted(s), s a set of texts -/
theorem sorted_setS {a : Addr} {l : List Str} {Q : Value → Shared → Prop} (R : SetS P w s.heap a l) (hh : A.handled = none) (h64 : l.length < 64)
    (fin : ∀ s' p (out : Array Value) (c : Nat) (ys : List Str), (∀ b o, s.heap.get? b = some o → s'.heap.get? b = some o) → s'.gens = s.gens → s'.os = s.os → s.heap.objs.size ≤ p → s'.heap.get? p = some (seqObj "list" out c) → StrsAre out.toList ys → ys.Perm l → sortedS ys = true → Q (.ref p) s') :
    wpAny (model P w) A (call (.builtin "sorted") [.ref a]) Q E s := by
  obtain ⟨⟨es, ep, t⟩, ho, T, nd, hr, hl⟩ := R
  have esz : es.size = l.length := T.sz
  refine Calls.call_function_entry kind_sorted plain_sorted entry_sorted (args_sorted1 _) ?_
  unfold Builtin.«sorted»
  refine wpAny_bind (m := checkCount "sorted" 1 1 _) (wpAny_pure (wpAny_bind (collect_set (A := A.in1) hh ⟨_, ho, rfl, rfl⟩ T.fit (Nat.lt_of_le_of_lt (Nat.le_of_eq esz) (by unfold scanBound; omega)) hr hl fun s1 vs k1 z1 g1 o1 pm => ?_)))
  have vl : vs.length = l.length := by rw [pm.length_eq, List.length_map, Array.length_toList]; exact esz
  have each : ∀ v ∈ vs, ∃ k t, v = Value.str k t := fun v hv => by
    obtain ⟨e, he, q⟩ := List.mem_map.mp (pm.mem_iff.mp hv)
    obtain ⟨⟨k, h1, _⟩, _⟩ := T.el e he
    obtain ⟨t, h2⟩ := Value.isStrOf_shape (x := k) (v := e.2) h1
    exact ⟨k, t, by rw [← q]; exact h2⟩
  obtain ⟨zs, hS, hm, zl⟩ := strs_keys vs each
  have pz : zs.Perm l := perm_of_nodup nd (fun x hx => by
    obtain ⟨e, he, q⟩ := (T.mem x).mp hx
    obtain ⟨t, h2⟩ := Value.isStrOf_shape (x := x) (v := e.2) q
    exact (hm x).mpr ⟨t, pm.mem_iff.mpr (List.mem_map.mpr ⟨e, he, h2⟩)⟩) (by rw [zl, vl])
  refine wpAny_bind (wpAny_newList ?_ (le_line (by omega)))
  have at1 : (s1.heap.push (seqObj "list" vs.toArray 0)).get? s1.heap.objs.size = some (seqObj "list" vs.toArray 0) := Heap.get?_push_size _ rfl
  refine wpAny_bind (wpAny_holding (wpAny_call_entry slot_list_sort ⟨_, at1, rfl⟩ entry_list_sort (list_sort_treeK strKind_oneLt at1 hS.keysOf (fun v₁ v₂ rest e => keyKind_strs (by rw [← e]; exact hS)) (by omega) fun st' a1 a2 => ⟨_, rfl, ?_⟩) (args_list_sort _)))
  obtain ⟨ys, y1, y2, y3⟩ := sorted_out_str hS a1 a2
  obtain ⟨c, hc⟩ := sortedHeap_at (vs := vs) (out := (arrOf st').map (·.2)) at1
  refine wpAny_pure ⟨_, rfl, fin _ s1.heap.objs.size _ c ys (fun b u e => ?_) g1 o1 z1 hc y1 (y2.trans pz) y3⟩
  have e1 := k1 b u e
  have lb := Heap.lt_size e1
  exact (sortedHeap_old (vs := vs) (Nat.ne_of_lt lb) (by rw [size_push']; exact Nat.lt_succ_of_lt lb)).trans (Heap.get?_push_of_some _ e1)
end
/-! ### the rule -/
def tSortedSet (K : PySem.W.Frag) (te : TE) : TE := fun σ H Q => te σ H fun x H1 => ∃ a ss, x = .ref a ∧ SqL K H1 a (sL ss) ∧ ss.length < 60 ∧
  ∀ ys p, ys.Nodup → (∀ z, z ∈ ys ↔ z ∈ ss) → sortedS ys = true → H1 p = none → Q (.ref p) (upd H1 p (.lst (sL ys)))
theorem vals_of_sas : ∀ {us : List Value} {ys : List Str}, StrsAre us ys → Vals (sL ys) us
  | _, _, .nil => .nil
  | _, _, .cons _ t r => .cons ⟨t, rfl⟩ (vals_of_sas r)
section
variable {X : Cx} {e : Expr} {te : TE} {p p2 q q2 : Pos}
theorem pe_sortedSetS (hc : X.calm = true) (he : PE X e te) (hg : Gl X "sorted") (hm : X.mg "sorted" = none) (hg2 : Gl X "set") (hm2 : X.mg "set" = none)
    (s1 : starEach [.Call (.Name "set" p2) [e] [] q2] X.env = (false, eval (.Call (.Name "set" p2) [e] [] q2) X.env) :: starEach [] X.env := by rfl) (s2 : starEach [e] X.env = (false, eval e X.env) :: starEach [] X.env := by rfl) :
    PE X (.Call (.Name "sorted" p) [.Call (.Name "set" p2) [e] [] q2] [] q) (tSortedSet X.K te) := by
  refine ⟨fun pins s σ H Q I hq => ?_⟩
  refine wpAny_Call_Name_kw (ld_blt I hg hm bt_sorted ?_)
  refine PyProof.Rows.callWith_builtin1 ?_ s1 rfl
  rw [s1]
  refine Calls.spliced_cons (rest := backTo q (starEach [] X.env)) ?_
  refine wpAny_Call_Name_kw (ld_blt I hg2 hm2 bt_set ?_)
  refine PyProof.Rows.callWith_type1 ?_ s2 rfl
  rw [s2]
  refine Calls.spliced_cons (rest := backTo q2 (starEach [] X.env)) (thn (he.run pins s σ H _ I hq) fun u s1' ⟨x, H1, I1, rx, a, ss, ex, hs, h60, k⟩ => ?_)
  subst ex
  obtain rfl : u = Value.ref a := rx
  refine Calls.spliced_nil ?_
  obtain ⟨its, rv, hli, hz⟩ := I1.list hs
  have il : its.length = ss.length := by have := rv.length; rw [sL_len] at this; exact this.symm
  refine call_setS (P := X.prog) (w := X.w) (ss := ss) (I1.ok.hd hc) hli.isList (by rw [List.toList_toArray]; exact rv) (by rw [List.size_toArray]; unfold scanBound; omega) fun h2 tk hS hk hz2 => ?_
  have I2 : Inv X pins σ H1 { s1' with heap := h2, toks := tk } := I1.kept fun b o ob => hk b o (Heap.lt_size ob) ob
  obtain ⟨m1, m2, m3⟩ := metS_facts ss ss.length
  rw [List.take_length] at m1 m2 m3
  refine Calls.spliced_nil ?_
  refine sorted_setS (P := X.prog) (w := X.w) (s := { s1' with heap := h2, toks := tk }) hS (I1.ok.hd hc) (by omega) fun s3 r out c ys k3 g3 o3 z3 a3 y1 y2 y3 => ?_
  have nr : H1 r = none := I2.hok.fresh z3
  have hlen : (sL ys).length ≤ sizeLine := by rw [sL_len, y2.length_eq]; exact le_line (by omega)
  have J : Inv X pins σ (upd H1 r (.lst (sL ys))) s3 :=
    I2.call' (ch := []) o3 (Un.laid k3 z3 nr) (I2.hok.laid k3 z3 ⟨hlen, out.toList, c, vals_of_sas y1, a3⟩) (by rw [g3]; exact I2.bare) (fun _ z => nomatch z)
  exact ⟨.ref r, _, J, rfl, k ys r (y2.nodup_iff.mpr m2) (fun z => by rw [y2.mem_iff]; exact m1 z) y3 nr⟩
end
end Cw

/-! CwOwnC -/
set_option Elab.async false
set_option linter.all false
set_option maxRecDepth 100000
set_option maxHeartbeats 4000000
/-! Own rules: name = {..} on one line; texts repeated. -/
namespace Cw
open PySem PySem.Spec PyProof.Rows L2
section
variable {X : Cx}
theorem ps_setDc {i : Nat} {y : Str} {py : Pos} {kx vx tg iter : Expr} {ifs : List Expr} {scope : Scope} {own : List (Str × Nat)} {pos spos : Pos} {wi : TI} {g : TG} {tt : TT} {tk tv : TE} (hc : X.calm = true) (hN : X.N.Nodup) (hy : X.N[i]? = some y) (hyl : X.env.scope.names.lookup y = some .local)
    (hsw : swapsWith (.DictComp kx vx [⟨tg, iter, ifs, 0⟩] scope pos) (some (.Name y py)) spos.line X.env = pure true) (hi : PI X tg iter wi) (ok : BlkOk X.N X.env.scope scope own)
    (hg : ∀ (s : Shared) (H : Hp) (C : Addr) (cl : List (Str × Addr)) (fp : List Addr), PG (X.blk s H scope (compEnvC scope cl C X.env) fp) tg g) (ht : ∀ (s : Shared) (H : Hp) (C : Addr) (cl : List (Str × Addr)) (fp : List Addr), PTs (X.blk s H scope (compEnvC scope cl C X.env) fp) ifs tt)
    (hk : ∀ (s : Shared) (H : Hp) (C : Addr) (cl : List (Str × Addr)) (fp : List Addr), PE (X.blk s H scope (compEnvC scope cl C X.env) fp) kx tk)
    (he : ∀ (s : Shared) (H : Hp) (C : Addr) (cl : List (Str × Addr)) (fp : List Addr), PE (X.blk s H scope (compEnvC scope cl C X.env) fp) vx tv) (hs : ∀ x, foldedSetIterable iter X.env x = pure x := by intro _; rfl) :
    PS X (.Assign [.Name y py] (.DictComp kx vx [⟨tg, iter, ifs, 0⟩] scope pos) spos) (tAsg (tDc wi g tt tk tv (own.map (·.2))) (gName i)) := by
  refine ⟨fun pins s σ H D I h => ?_⟩
  rw [exec_Assign_Name_used _ _ _ _ hsw]
  refine wpAny_bind (wpAny_standAt (wpAny_bind ?_))
  have h2 : tDc wi g tt tk tv (own.map (·.2)) σ H (fun x H1 => gName i x σ H1 D.nx) := h
  refine wpAny_bind (m := comprehension (.DictComp kx vx [⟨tg, iter, ifs, 0⟩] scope pos) scope X.env (firstIterPos [⟨tg, iter, ifs, 0⟩] pos) newDict false (eval iter X.env) (some (assign (.Name y py) X.env)))
    (thn (dc_core (Qf := fun _ s' => SP X pins D .next s') hc hN I hi ok hg ht hk he hs h2 fun L C s' m H' I' q hn f => ?_) fun _ s' z => wpAny_pure (wpAny_pure z))
  obtain ⟨f0, f1, f2, f3, f4, f5⟩ := f
  refine wpAny_assign_Name (store_ok2 (v := V.ref L) I' hN hy (.inl hyl) rfl (fun s2 I2 ⟨a, sb, ha⟩ => ?_) (.inr hyl))
  have nC : C ≠ a := fun e => by
    rcases ha with z | z
    · exact f1 (e.trans z)
    · exact f4 y a z e.symm
  exact ⟨m, hn.sameBut sb nC, fun h3 sb3 => ⟨_, H', I2.turned (t' := s2.toks) (fun b o hb e => (sb3.2 b hb).trans e) f0 f1 f3 f4 f5, q⟩⟩
theorem sw_trueD {kx vx : Expr} {gs : List Comprehension} {scope : Scope} {pos py : Pos} {y : Str} {l : Nat} {env : Env} (hk : env.scope.kind = .function) (hy : env.scope.names.lookup y = some .local) (hl : (py.line == pos.line) = true)
    (ha : (scope.names.any fun (n, k) => n == y && (k == .local || k == .cell)) = false) : swapsWith (.DictComp kx vx gs scope pos) (some (.Name y py)) l env = pure true := by
  have k1 : env.kindOf y = some .local := hy
  have k2 : env.blockKind = .function := by unfold Env.blockKind; rw [hk]; rfl
  unfold swapsWith
  simp only [k2, k1, ha, Expr.pos, hl]
  rfl
end
/-! ### a list beside [] -/
def rNil (K : PySem.W.Frag) (neg : Bool) : R2 := fun x y H Q => ∃ a b xs, x = .ref a ∧ y = .ref b ∧ SqL K H a xs ∧ SqL K H b [] ∧ Q (.bl (if neg then !xs.isEmpty else xs.isEmpty)) H
section
variable {X : Cx}
theorem op_neNil (K : PySem.W.Frag) (hu : X.A.units < cLine) (hK : X.K = K := by rfl) : OpR X (compareOp .NotEq) (rNil K true) := by
  subst hK
  intro pins s σ H x y v u Q I rx ry h
  obtain ⟨a, b, xs, rfl, rfl, ha, hb, q⟩ := h
  cases rx
  cases ry
  obtain ⟨i1, r1, l1, _⟩ := I.list ha
  obtain ⟨i2, r2, l2, _⟩ := I.list hb
  cases r2
  have e1 : i1.length = xs.length := r1.length.symm
  have fin : ∀ k : Bool, k = (!xs.isEmpty) → EP X pins σ Q (.bool k) s := fun k e => ⟨.bl k, H, I, rfl, by rw [e]; simpa using q⟩
  cases xs with
  | nil =>
    cases r1
    exact SeqAt.RcNeAt.lists (e := fun _ => true) l1.isList l2.isList rfl hu (fun j h1 => by simp at h1) X.prog X.w X.xe _ (fin _ rfl)
  | cons z r =>
    refine SeqAt.RcNeAt.lists_lengths l1.isList l2.isList ?_ hu X.prog X.w X.xe _ (fin true rfl)
    simp only [List.size_toArray, List.length_nil]
    rw [e1]; rfl
theorem op_eqNil (K : PySem.W.Frag) (hu : X.A.units < cLine) (hK : X.K = K := by rfl) : OpR X (compareOp .Eq) (rNil K false) := by
  subst hK
  intro pins s σ H x y v u Q I rx ry h
  obtain ⟨a, b, xs, rfl, rfl, ha, hb, q⟩ := h
  cases rx
  cases ry
  obtain ⟨i1, r1, l1, _⟩ := I.list ha
  obtain ⟨i2, r2, l2, _⟩ := I.list hb
  cases r2
  have e1 : i1.length = xs.length := r1.length.symm
  have fin : ∀ k : Bool, k = xs.isEmpty → EP X pins σ Q (.bool k) s := fun k e => ⟨.bl k, H, I, rfl, by rw [e]; simpa using q⟩
  cases xs with
  | nil =>
    cases r1
    exact SeqAt.RcAt.lists (e := fun _ => true) l1.isList l2.isList rfl hu (fun j h1 => by simp at h1) X.prog X.w X.xe _ (fin _ rfl)
  | cons z r =>
    refine SeqAt.RcAt.lists_lengths l1.isList l2.isList ?_ hu X.prog X.w X.xe _ (fin false rfl)
    simp only [List.size_toArray, List.length_nil]
    rw [e1]; rfl
end
end Cw

/-! CwA -/
set_option Elab.async false
set_option linter.all false
set_option maxRecDepth 100000
set_option maxHeartbeats 4000000
namespace Cw
open PySem PySem.Spec PyProof.Rows L2
section
variable {P : Program} {w : World} {K : PySem.W.Frag} {mg : Str → Option Value} {base : Heap}
/-! checks of values -/
theorem kit_ii : PySem.W.kitOne K (.type "int") (.type "int") = some true := kit_ty (by decide +kernel)
theorem kit_ib : PySem.W.kitOne K (.type "int") (.type "bool") = some false := kit_ty (by decide +kernel)
theorem kit_ss : PySem.W.kitOne K (.type "str") (.type "str") = some true := kit_ty (by decide +kernel)
theorem kit_ll : PySem.W.kitOne K (.type "list") (.type "list") = some true := kit_ty (by decide +kernel)
theorem kit_dd : PySem.W.kitOne K (.type "dict") (.type "dict") = some true := kit_ty (by decide +kernel)

def sp_is_integer : Sp := fun vs H Q _ => ∃ n : Int, vs = [.int n] ∧ ∀ H', Same H H' → Q (.bl true) H'
/-! is_integer: 0:value -/
abbrev n_is_integer : List Str := ["value"]
theorem sc_is_integer : FnScope n_is_integer ["value"] (defScope s_is_integer) := ⟨rfl, rfl, rfl, by decide +kernel, rfl, by decide +kernel, by decide +kernel⟩
theorem c_is_integer (T : Txt K mg) : Cal P w K mg base 1 (He.ga K "is_integer") ["value"] sp_is_integer := by
  refine T.d_is_integer.cal sc_is_integer (fun _ _ _ _ _ _ us hl => match us, hl with | [_], _ => rfl) (fun vs H Q E h => ?_) (fun cdv A outer s H vs Q E hr h => ?_)
  · obtain ⟨_, rfl, _⟩ := h; rfl
  · obtain ⟨_, rfl, k⟩ := h
    refine ⟨_, (pss_one (ps_ret (pe_and (pe_callB (kcall_isi K) (by rfl) T.b_isinstance bt_isinstance (pa_cons (pv 0) (pa_cons (pe_bltn (v := .ty "int") (by rfl) T.b_int bt_int rfl) pa_nil))) (pe_one (pe_not (pe_callB (kcall_isi K) (by rfl) T.b_isinstance bt_isinstance (pa_cons (pv 0) (pa_cons (pe_bltn (v := .ty "bool") (by rfl) T.b_bool bt_bool rfl) pa_nil)))))))), ?_⟩
    refine ⟨_, rfl, _, _, _, _, _, rfl, .ty _, .base (.int _), kit_ii, _, rfl, iteT ?_⟩
    exact ⟨_, rfl, _, _, _, _, _, rfl, .ty _, .base (.int _), kit_ib, _, rfl, k H (Same.refl H)⟩

def sp_is_list : Sp := fun vs H Q _ => ∃ (a : Addr) (xs : List V), vs = [.ref a] ∧ H a = some (.lst xs) ∧ ∀ H', Same H H' → Q (.bl true) H'
/-! is_list: 0:value -/
abbrev n_is_list : List Str := ["value"]
theorem sc_is_list : FnScope n_is_list ["value"] (defScope s_is_list) := ⟨rfl, rfl, rfl, by decide +kernel, rfl, by decide +kernel, by decide +kernel⟩
theorem c_is_list (T : Txt K mg) : Cal P w K mg base 1 (He.ga K "is_list") ["value"] sp_is_list := by
  refine T.d_is_list.cal sc_is_list (fun _ _ _ _ _ _ us hl => match us, hl with | [_], _ => rfl) (fun vs H Q E h => ?_) (fun cdv A outer s H vs Q E hr h => ?_)
  · obtain ⟨_, _, rfl, _⟩ := h; rfl
  · obtain ⟨a, xs, rfl, ha, k⟩ := h
    refine ⟨_, (pss_one (ps_ret (pe_callB (kcall_isiT K) (by rfl) T.b_isinstance bt_isinstance (pa_cons (pv 0) (pa_cons (pe_tup (pa_cons (pe_bltn (v := .ty "list") (by rfl) T.b_list bt_list rfl) (pa_cons (pe_bltn (v := .ty "tuple") (by rfl) T.b_tuple bt_tuple rfl) pa_nil))) pa_nil))))), ?_⟩
    refine ⟨_, rfl, by decide, new_ fun p H1 e np hp => ?_⟩
    exact ⟨_, _, _, _, _, _, rfl, hp, .cons (.ty _) (.cons (.ty _) .nil), .base (.lst (e _ _ ha)), kitAny_cons kit_ll (fun z => nomatch z) (fun _ => rfl), k H1 e⟩

def sp_is_width : Sp := fun vs H Q _ => ∃ n : Int, vs = [.int n] ∧ 1 ≤ n ∧ n ≤ 100 ∧ ∀ H', Same H H' → Q (.bl true) H'
/-! is_width: 0:value -/
abbrev n_is_width : List Str := ["value"]
theorem sc_is_width : FnScope n_is_width ["value"] (defScope s_is_width) := ⟨rfl, rfl, rfl, by decide +kernel, rfl, by decide +kernel, by decide +kernel⟩
theorem c_is_width (T : Txt K mg) : Cal P w K mg base 2 (He.ga K "is_width") ["value"] sp_is_width := by
  refine T.d_is_width.cal sc_is_width (fun _ _ _ _ _ _ us hl => match us, hl with | [_], _ => rfl) (fun vs H Q E h => ?_) (fun cdv A outer s H vs Q E hr h => ?_)
  · obtain ⟨_, rfl, _⟩ := h; rfl
  · obtain ⟨n, rfl, h1, h2, k⟩ := h
    obtain ⟨tMOST_WIDTH, hMOST_WIDTH⟩ := T.i_MOST_WIDTH
    refine ⟨_, (pss_one (ps_ret (pe_and (pe_cal (c_is_integer T) (hr.mono (by decide)) (by rfl) T.g_is_integer (pa_cons (pv 0) pa_nil)) (pe_one (pe_chain op_le op_le pe_int (pv 0) (pe_glob (v := .int 100) rfl hMOST_WIDTH ⟨_, rfl⟩)))))), ?_⟩
    refine ⟨_, rfl, n, rfl, fun H' e => ?_⟩
    refine ⟨_, rfl, iteT ?_⟩
    refine ⟨_, rfl, _, _, rfl, rfl, _, rfl, ?_⟩
    rw [decide_eq_true h1]
    refine iteT ⟨_, _, rfl, rfl, ?_⟩
    show Q (.bl (decide (n ≤ 100))) H'
    rw [decide_eq_true h2]
    exact k H' e

def sp_want_width : Sp := fun vs H Q _ => ∃ n : Int, vs = [.int n] ∧ 1 ≤ n ∧ n ≤ 100 ∧ ∀ H', Same H H' → Q .non H'
/-! want_width: 0:width -/
abbrev n_want_width : List Str := ["width"]
theorem sc_want_width : FnScope n_want_width ["width"] (defScope s_want_width) := ⟨rfl, rfl, rfl, by decide +kernel, rfl, by decide +kernel, by decide +kernel⟩
theorem c_want_width (T : Txt K mg) : Cal P w K mg base 3 (He.ga K "want_width") ["width"] sp_want_width := by
  refine T.d_want_width.cal sc_want_width (fun _ _ _ _ _ _ us hl => match us, hl with | [_], _ => rfl) (fun vs H Q E h => ?_) (fun cdv A outer s H vs Q E hr h => ?_)
  · obtain ⟨_, rfl, _⟩ := h; rfl
  · obtain ⟨n, rfl, h1, h2, k⟩ := h
    refine ⟨_, (pss_one (ps_if (pt_not (pt_val (pe_cal (c_is_width T) (hr.mono (by decide)) (by rfl) T.g_is_width (pa_cons (pv 0) pa_nil))))
        pss_never pss_nil)), ?_⟩
    exact ⟨_, rfl, n, rfl, h1, h2, fun H' e => ⟨_, rfl, iteF (k H' e)⟩⟩

def sp_is_bits : Sp := fun vs H Q _ => ∃ z : Str, vs = [.str z] ∧ isBits z ∧ z.length ≤ 1000 ∧ ∀ H', Same H H' → Q (.bl true) H'
/-! is_bits: 0:value 1:sign -/
abbrev n_is_bits : List Str := ["value", "sign"]
theorem sc_is_bits : FnScope n_is_bits ["value"] (defScope s_is_bits) := ⟨rfl, rfl, rfl, by decide +kernel, rfl, by decide +kernel, by decide +kernel⟩
theorem c_is_bits (T : Txt K mg) : Cal P w K mg base 1 (He.ga K "is_bits") ["value"] sp_is_bits := by
  refine T.d_is_bits.cal sc_is_bits (fun _ _ _ _ _ _ us hl => match us, hl with | [_], _ => rfl) (fun vs H Q E h => ?_) (fun cdv A outer s H vs Q E hr h => ?_)
  · obtain ⟨_, rfl, _⟩ := h; rfl
  · obtain ⟨z, rfl, hb, hl, k⟩ := h
    refine ⟨_, (pss_one (ps_ret (pe_and (pe_callB (kcall_isi K) (by rfl) T.b_isinstance bt_isinstance (pa_cons (pv 0) (pa_cons (pe_bltn (v := .ty "str") (by rfl) T.b_str bt_str rfl) pa_nil))) (pe_one (pe_callB (kcr_all K rfl) (by rfl) T.b_all bt_all (pa_cons (pe_lc (own := [("sign", 1)]) (g := gName 1) (tt := tYes) rfl sc_is_bits.nd (pi_str (pv 0)) (blkOk_by (N := n_is_bits) (sc := defScope s_is_bits) (by decide +kernel)) (fun _ _ _ _ _ => (pg_name (i := 1) sc_is_bits.nd rfl (Or.inl rfl))) (fun _ _ _ _ _ => pts_nil) (fun _ _ _ _ _ => (pe_cmpR (kop_in_seq K) (pv 1) (pe_tup (pa_cons pe_str (pa_cons pe_str pa_nil))) (by rfl)))) pa_nil)))))), ?_⟩
    refine ⟨_, rfl, _, _, _, _, _, rfl, .ty _, .base (.str _), kit_ss, _, rfl, iteT ?_⟩
    refine ⟨_, rfl, _, rfl, ?_⟩
    refine lcY (cl z) (fun _ v _ => v = .bl true) (Nat.le_trans hl (by decide)) (fun _ _ _ _ _ h => h) ?_ ?_ ?_ ?_
    · intro i H' hi _; show i < z.cps.size; simpa using hi
    · intro H' _; show z.cps.size ≤ _; simp
    · intro i c D x H1 H2 hc hD hD1 e y Ry Rn hy
      obtain ⟨rfl, c', hc', rfl⟩ := y
      have ec : c' = c := by
        have : z.cps[i]? = some c := by rw [← Array.getElem?_toList]; exact hc
        rw [this] at hc'
        exact (Option.some.inj hc').symm
      subst ec
      have hcb := hb c' (List.mem_of_getElem? hc)
      refine ⟨rfl, _, rfl, by decide, fun p np => ?_⟩
      refine ⟨_, _, rfl, .inr (SqT.of upd_same), rfl, rfl, ?_⟩
      have : inV (V.str ⟨#[c']⟩) [.str "0", .str "1"] = true := by
        rcases hcb with h | h <;> subst h <;> decide +kernel
      rw [this]
      exact hy _ _ (same_upd np) rfl
    · intro D H2 ys nD e hD hp
      have ey := paired_bl (bf := fun _ => true) hp
      refine ⟨D, (cl z).map fun _ => true, rfl, SqL.of ?_, ?_⟩
      · rw [hD, ey]
      · have : ((cl z).map fun _ => true).all id = true := by simp
        rw [this]
        exact k H2 (e.trans off_le)
end
end Cw

/-! CwOwnA -/
set_option Elab.async false
set_option linter.all false
set_option maxRecDepth 100000
set_option maxHeartbeats 4000000
/-! Own rules: list(d.values()). -/
namespace Cw
open PySem PySem.Spec PyProof.Rows L2
def tListV (te : TE) : TE := fun σ H Q => te σ H fun x H1 => ∃ d kvs, x = .ref d ∧ H1 d = some (.dK kvs) ∧ ∀ p, H1 p = none → Q (.ref p) (upd H1 p (.lst (kvs.map (·.2))))
theorem vals_at2 {kvs : List (Key × V)} {vs : List (Key × Value)} (kv : KV kvs vs) : ∀ {us : List Value}, us.length = vs.length → (∀ (j : Nat) (v : Value), us[j]? = some v → ∃ k, vs[j]? = some (k, v)) → Vals (kvs.map (·.2)) us := by
  induction kv with
  | nil =>
    intro us hl _
    have : us = [] := List.length_eq_zero_iff.mp (by simpa using hl)
    subst this
    exact .nil
  | cons r t ih =>
    intro us hl hv
    cases us with
    | nil => simp at hl
    | cons u us =>
      obtain ⟨k, ek⟩ := hv 0 u rfl
      simp only [List.getElem?_cons_zero, Option.some.injEq] at ek
      refine .cons ?_ (ih (by simpa using hl) fun j v e => ?_)
      · have := r.2
        rw [ek] at this
        exact this
      · obtain ⟨k', e'⟩ := hv (j + 1) v (by simpa using e)
        exact ⟨k', by simpa using e'⟩
section
variable {X : Cx} {e : Expr} {te : TE} {p apos cpos pos : Pos}
theorem pe_listValues (hc : X.calm = true) (he : PE X e te) (hg : Gl X "list") (hm : X.mg "list" = none) (hv : bootBuiltins "list" = some (.type "list")) (hbase : attributeBase e "values" X.env (eval e X.env) = eval e X.env := by rfl) (hline : (apos.endLine == cpos.line) = true := by rfl)
    (hs : starEach [.Call (.Attribute e "values" apos) [] [] cpos] X.env = (false, eval (.Call (.Attribute e "values" apos) [] [] cpos) X.env) :: starEach [] X.env := by rfl) :
    PE X (.Call (.Name "list" p) [.Call (.Attribute e "values" apos) [] [] cpos] [] pos) (tListV te) := by
  refine ⟨fun pins s σ H Q I hq => ?_⟩
  refine wpAny_Call_Name_kw (ld_blt I hg hm hv ?_)
  refine PyProof.Rows.callWith_type1 ?_ hs rfl
  rw [hs]
  show wpAny _ _ (spliced ((false, eval (.Call (.Attribute e "values" apos) [] [] cpos) X.env) :: backTo pos (starEach [] X.env))) _ _ s
  refine Calls.spliced_cons ?_
  refine wpAny_Call_method (T := "dict") (id := "dict.values") hbase rfl hline F.plainAttrs_dict F.slot_dict_values F.type_dict_values (thn (he.run pins s σ H _ I hq) fun u s1 ⟨x, H1, I1, rx, d, kvs, ex, hd, q⟩ => ?_)
  subst ex
  obtain rfl : u = Value.ref d := rx
  obtain ⟨hz, hs0, vs, kv, hdo⟩ := I1.hok d _ hd
  obtain ⟨ep, hat⟩ := hdo.dictAt
  have lk : kvs.length = vs.length := Paired.length kv
  have I2 : Inv X pins σ H1 { s1 with heap := s1.heap.push { cls := .type "dict_values", data := .fields #[.ref d] } } := I1.kept (t' := s1.toks) fun b ob q => Heap.get?_push_of_some _ q
  refine ⟨hdo.typeIs, hdo.mapOf.noDict, ?_⟩
  show wpAny _ _ (callWith cpos (.builtin "dict.values") [.ref d] [] []) _ X.xe s1
  refine method_meetsIn F.slot_dict_values F.entry_dict_values rfl (PySem.evalArgs_none ⟨rfl, hdo.typeIs, F.args_dict_values_1 _, _, meets_dict_values (mixKind X.prog X.w) d hs0, ⟨vs, hdo⟩, ?_⟩)
  refine Calls.spliced_nil ?_
  refine PySem.W.kdl_call (PySem.W.kdl_values (knd := mixKind X.prog X.w) (kvs := vs) (ep := ep)) (I1.ok.hd hc) ⟨⟨_, Heap.get?_push_size _ rfl, rfl, rfl⟩, hat.push _⟩ (by rw [← lk]; exact hz) fun h' tk acc c' hk hD hacc => ?_
  have hv2 : Vals (kvs.map (·.2)) acc.toList := vals_at2 kv (by rw [Array.length_toList]; exact hacc.1) fun j v e => hacc.2 j v (by rw [← Array.getElem?_toList]; exact e)
  refine ⟨.ref _, _, I2.laid (o := .lst (kvs.map (·.2))) (t' := tk) hk (Nat.le_refl _)
    (show ObjOk X.prog X.w _ _ _ (.lst (kvs.map (·.2))) from ⟨by rw [List.length_map]; exact hz, acc.toList, c', hv2, by rw [Array.toArray_toList]; exact hD⟩), rfl, q _ (I2.hok.fresh (Nat.le_refl _))⟩
end
end Cw

/-! CwB -/
set_option Elab.async false
set_option linter.all false
set_option maxRecDepth 100000
set_option maxHeartbeats 4000000
namespace Cw
open PySem PySem.Spec PyProof.Rows L2
section
variable {P : Program} {w : World} {K : PySem.W.Frag} {mg : Str → Option Value} {base : Heap}
/-! names, addresses, sizes -/
theorem flat_str (l : List Str) : (sL l).all flatV = true := by simp [sL, flatV]
theorem inV_str (x : Str) (l : List Str) : inV (.str x) (sL l) = l.contains x := by
  unfold inV sL
  rw [List.any_map, List.contains_eq_any_beq]
  congr 1
  funext y
  show (y == x) = (x == y)
  exact Bool.beq_comm
theorem name_len {z : Str} (h : NameOk z) : z.length = 1 := by
  obtain ⟨c, rfl, _⟩ := h
  rfl
theorem name_kept {z : Str} (h : NameOk z) : (["home", "hole", "ring", "all", "none"] : List Str).contains z = false := by
  have l := name_len h
  rw [Bool.eq_false_iff]
  intro m
  have m2 := List.contains_iff_mem.mp m
  simp only [List.mem_cons, List.not_mem_nil, or_false] at m2
  rcases m2 with e | e | e | e | e <;> (rw [e] at l; exact absurd l (by decide +kernel))
theorem letter_in {c : Nat} (h1 : 97 ≤ c) (h2 : c ≤ 122) : c ∈ ("abcdefghijklmnopqrstuvwxyz" : Str).cps.toList := by
  have h : ∀ i, i < 26 → (97 + i) ∈ ("abcdefghijklmnopqrstuvwxyz" : Str).cps.toList := by decide +kernel
  have := h (c - 97) (by omega)
  rwa [show 97 + (c - 97) = c by omega] at this
def sp_is_name : Sp := fun vs H Q _ => ∃ z : Str, vs = [.str z] ∧ NameOk z ∧ ∀ H', Same H H' → Q (.bl true) H'
/-! is_name: 0:value 1:sign -/
abbrev n_is_name : List Str := ["value", "sign"]
theorem sc_is_name : FnScope n_is_name ["value"] (defScope s_is_name) := ⟨rfl, rfl, rfl, by decide +kernel, rfl, by decide +kernel, by decide +kernel⟩
theorem c_is_name (T : Txt K mg) : Cal P w K mg base 1 (He.ga K "is_name") ["value"] sp_is_name := by
  refine T.d_is_name.cal sc_is_name (fun _ _ _ _ _ _ us hl => match us, hl with | [_], _ => rfl) (fun vs H Q E h => ?_) (fun cdv A outer s H vs Q E hr h => ?_)
  · obtain ⟨_, rfl, _⟩ := h; rfl
  · obtain ⟨z, rfl, hz, k⟩ := h
    have hl := name_len hz
    obtain ⟨tLONGEST_NAME, hLONGEST_NAME⟩ := T.i_LONGEST_NAME
    obtain ⟨tLETTERS, hLETTERS⟩ := T.s_LETTERS
    refine ⟨_, (pss_cons (ps_if (PW.pt (pw_or (pt_not (pt_val (pe_callB (kcall_isi K) (by rfl) T.b_isinstance bt_isinstance (pa_cons (pv 0) (pa_cons (pe_bltn (v := .ty "str") (by rfl) T.b_str bt_str rfl) pa_nil))))) (pw_or1 (pt_not (pt_chain op_le op_le pe_int (pe_callB call_len_str (by rfl) T.b_len bt_len (pa_cons (pv 0) pa_nil)) (pe_glob (v := .int 6) rfl hLONGEST_NAME ⟨_, rfl⟩))))))
        (pss_one (ps_ret pe_bl)) pss_nil)
      (pss_one (ps_ret (pe_and (pe_callB (kcr_all K rfl) (by rfl) T.b_all bt_all (pa_cons (pe_lc (own := [("sign", 1)]) (g := gName 1) (tt := tYes) rfl sc_is_name.nd (pi_str (pv 0)) (blkOk_by (N := n_is_name) (sc := defScope s_is_name) (by decide +kernel)) (fun _ _ _ _ _ => (pg_name (i := 1) sc_is_name.nd rfl (Or.inl rfl))) (fun _ _ _ _ _ => pts_nil) (fun _ _ _ _ _ => (pe_cmpR op_in_sign (pv 1) (pe_glob (v := .str "abcdefghijklmnopqrstuvwxyz") rfl hLETTERS ⟨_, rfl⟩) (by rfl)))) pa_nil)) (pe_one (pe_cmpR (kop_notIn_seq K) (pv 0) (pe_glob (v := .ref (He.ga K "KEPT_WORDS")) rfl T.g_KEPT_WORDS rfl) (by rfl))))))), ?_⟩
    refine ⟨_, rfl, _, _, _, _, _, rfl, .ty _, .base (.str _), kit_ss, true, rfl, ?_⟩
    refine iteF ?_
    refine ⟨_, rfl, z, rfl, by rw [hl]; decide, _, _, rfl, rfl, true, by rw [hl]; rfl, ?_⟩
    refine iteT ⟨_, _, rfl, rfl, true, by rw [hl]; rfl, ?_⟩
    refine iteF ⟨_, rfl, _, rfl, ?_⟩
    refine lcY (cl z) (fun _ v _ => v = .bl true) (by rw [cl, Array.length_toList]; show z.length ≤ _; omega) (fun _ _ _ _ _ h => h) ?_ ?_ ?_ ?_
    · intro i H' hi _; show i < z.cps.size; simpa [cl] using hi
    · intro H' _; show z.cps.size ≤ _; simp [cl]
    · intro i c D x H1 H2 hc hD hD1 e y Ry Rn hy
      obtain ⟨rfl, c', hc', rfl⟩ := y
      have ec : c' = c := by
        have : z.cps[i]? = some c := by rw [← Array.getElem?_toList]; exact hc
        rw [this] at hc'
        exact (Option.some.inj hc').symm
      subst ec
      refine ⟨rfl, _, rfl, c', _, rfl, rfl, ?_⟩
      have hm : c' ∈ ("abcdefghijklmnopqrstuvwxyz" : Str).cps.toList := by
        obtain ⟨d, rfl, h1, h2⟩ := hz
        have := List.mem_of_getElem? hc
        simp [cl] at this
        subst this
        exact letter_in h1 h2
      rw [decide_eq_true hm]
      exact hy _ _ (Same.refl _) rfl
    · intro D H2 ys nD e hD hp
      have ey := paired_bl (bf := fun _ => true) hp
      refine ⟨D, (cl z).map fun _ => true, rfl, SqL.of ?_, true, ?_, ?_⟩
      · rw [hD, ey]
      · congr 1; simp
      · refine iteT ⟨_, rfl, _, _, rfl, .inr (T.t_KEPT_WORDS H2), rfl, flat_str ["home", "hole", "ring", "all", "none"], ?_⟩
        have : inV (.str z) (sL ["home", "hole", "ring", "all", "none"]) = false := by rw [inV_str]; exact name_kept hz
        show Q (.bl (!inV (.str z) (sL ["home", "hole", "ring", "all", "none"]))) H2
        rw [this]
        exact k H2 (e.trans off_le)
end
end Cw

/-! CwC -/
set_option Elab.async false
set_option linter.all false
set_option maxRecDepth 100000
set_option maxHeartbeats 4000000
namespace Cw
open PySem PySem.Spec PyProof.Rows L2
section
variable {P : Program} {w : World} {K : PySem.W.Frag} {mg : Str → Option Value} {base : Heap}
/-! sizes, addresses, ways, heads -/
def sp_is_address : Sp := fun vs H Q _ => ∃ (w : Nat) (z : Str), vs = [.int w, .str z] ∧ 1 ≤ w ∧ w ≤ 100 ∧ IsAd w z ∧ ∀ H', Same H H' → Q (.bl true) H'
/-! is_address: 0:width 1:value -/
abbrev n_is_address : List Str := ["width", "value"]
theorem sc_is_address : FnScope n_is_address ["width", "value"] (defScope s_is_address) := ⟨rfl, rfl, rfl, by decide +kernel, rfl, by decide +kernel, by decide +kernel⟩
theorem c_is_address (T : Txt K mg) : Cal P w K mg base 4 (He.ga K "is_address") ["width", "value"] sp_is_address := by
  refine T.d_is_address.cal sc_is_address (fun _ _ _ _ _ _ us hl => match us, hl with | [_, _], _ => rfl) (fun vs H Q E h => ?_) (fun cdv A outer s H vs Q E hr h => ?_)
  · obtain ⟨_, _, rfl, _⟩ := h; rfl
  · obtain ⟨w, z, rfl, h1, h2, ha, k⟩ := h
    refine ⟨_, (pss_cons (ps_expr (pe_cal (c_want_width T) (hr.mono (by decide)) (by rfl) T.g_want_width (pa_cons (pv 0) pa_nil)))
      (pss_one (ps_ret (pe_and (pe_cal (c_is_bits T) (hr.mono (by decide)) (by rfl) T.g_is_bits (pa_cons (pv 1) pa_nil)) (pe_one (pe_cmpR op_eq (pe_callB call_len_str (by rfl) T.b_len bt_len (pa_cons (pv 1) pa_nil)) (pv 0) (nomark _))))))), ?_⟩
    refine ⟨_, rfl, w, rfl, by omega, by omega, fun H1 e1 => ?_⟩
    refine ⟨_, rfl, z, rfl, ha.1, by rw [ha.2]; omega, fun H2 e2 => ⟨_, rfl, iteT ?_⟩⟩
    refine ⟨_, rfl, z, rfl, by rw [ha.2]; exact le_line (by omega), _, rfl, rfl, ?_⟩
    show Q (.bl (decide (V.int (z.length : Nat) = V.int w))) H2
    rw [ha.2, decide_eq_true rfl]
    exact k H2 (e1.trans e2)

def sp_want_address : Sp := fun vs H Q _ => ∃ (w : Nat) (z : Str), vs = [.int w, .str z] ∧ 1 ≤ w ∧ w ≤ 100 ∧ IsAd w z ∧ ∀ H', Same H H' → Q .non H'
/-! want_address: 0:width 1:value -/
abbrev n_want_address : List Str := ["width", "value"]
theorem sc_want_address : FnScope n_want_address ["width", "value"] (defScope s_want_address) := ⟨rfl, rfl, rfl, by decide +kernel, rfl, by decide +kernel, by decide +kernel⟩
theorem c_want_address (T : Txt K mg) : Cal P w K mg base 5 (He.ga K "want_address") ["width", "value"] sp_want_address := by
  refine T.d_want_address.cal sc_want_address (fun _ _ _ _ _ _ us hl => match us, hl with | [_, _], _ => rfl) (fun vs H Q E h => ?_) (fun cdv A outer s H vs Q E hr h => ?_)
  · obtain ⟨_, _, rfl, _⟩ := h; rfl
  · obtain ⟨w, z, rfl, h1, h2, ha, k⟩ := h
    refine ⟨_, (pss_one (ps_if (pt_not (pt_val (pe_cal (c_is_address T) (hr.mono (by decide)) (by rfl) T.g_is_address (pa_cons (pv 0) (pa_cons (pv 1) pa_nil)))))
        pss_never pss_nil)), ?_⟩
    exact ⟨_, rfl, _, rfl, w, z, rfl, h1, h2, ha, fun H' e => ⟨_, rfl, iteF (k H' e)⟩⟩

def sp_size_of : Sp := fun vs H Q _ => ∃ (w : Nat) (z : Str), vs = [.int w, .str z] ∧ w ≤ 100 ∧ z.length ≤ w ∧ ∀ H', Same H H' → Q (.int ((2 ^ (w - z.length) : Nat) : Int)) H'
/-! size_of: 0:width 1:stretch -/
abbrev n_size_of : List Str := ["width", "stretch"]
theorem sc_size_of : FnScope n_size_of ["width", "stretch"] (defScope s_size_of) := ⟨rfl, rfl, rfl, by decide +kernel, rfl, by decide +kernel, by decide +kernel⟩
theorem c_size_of (T : Txt K mg) : Cal P w K mg base 1 (He.ga K "size_of") ["width", "stretch"] sp_size_of := by
  refine T.d_size_of.cal sc_size_of (fun _ _ _ _ _ _ us hl => match us, hl with | [_, _], _ => rfl) (fun vs H Q E h => ?_) (fun cdv A outer s H vs Q E hr h => ?_)
  · obtain ⟨_, _, rfl, _⟩ := h; rfl
  · obtain ⟨w, z, rfl, hw, hz, k⟩ := h
    refine ⟨_, (pss_one (ps_ret (pe_op op_shl pe_int (pe_op op_sub (pv 0) (pe_callB call_len_str (by rfl) T.b_len bt_len (pa_cons (pv 1) pa_nil)))))), ?_⟩
    refine ⟨_, rfl, _, rfl, z, rfl, le_line (by omega), _, _, rfl, rfl, ?_⟩
    refine ⟨_, _, rfl, rfl, ⟨by omega, by omega, by decide⟩, ?_⟩
    have e : (1 : Int) * 2 ^ ((w : Int) - (z.length : Int)).toNat = ((2 ^ (w - z.length) : Nat) : Int) := by
      rw [show ((w : Int) - (z.length : Int)).toNat = w - z.length by omega]
      simp
    show Q (.int ((1 : Int) * 2 ^ ((w : Int) - (z.length : Int)).toNat)) H
    rw [e]
    exact k H (Same.refl H)

def sp_begin_of : Sp := fun vs H Q _ => ∃ (w : Nat) (z : Str), vs = [.int w, .str z] ∧ w ≤ 100 ∧ z.length ≤ w ∧ ∀ H', Same H H' → Q (.int ((val (cl z) * 2 ^ (w - z.length) : Nat) : Int)) H'
theorem cl_len (z : Str) : (cl z).length = z.length := by simp [cl, Str.length]
/-! begin_of: 0:width 1:stretch 2:found 3:bit -/
abbrev n_begin_of : List Str := ["width", "stretch", "found", "bit"]
theorem sc_begin_of : FnScope n_begin_of ["width", "stretch"] (defScope s_begin_of) := ⟨rfl, rfl, rfl, by decide +kernel, rfl, by decide +kernel, by decide +kernel⟩
theorem c_begin_of (T : Txt K mg) : Cal P w K mg base 2 (He.ga K "begin_of") ["width", "stretch"] sp_begin_of := by
  refine T.d_begin_of.cal sc_begin_of (fun _ _ _ _ _ _ us hl => match us, hl with | [_, _], _ => rfl) (fun vs H Q E h => ?_) (fun cdv A outer s H vs Q E hr h => ?_)
  · obtain ⟨_, _, rfl, _⟩ := h; rfl
  · obtain ⟨w, z, rfl, hw, hz, k⟩ := h
    refine ⟨_, (pss_cons (ps_set (i := 2) sc_begin_of.nd rfl (Or.inl rfl) pe_int)
      (pss_cons (ps_for PassesOwn.never rfl (pi_str (pv 1)) (pg_name (i := 3) sc_begin_of.nd rfl (Or.inl rfl))
        (pss_one (ps_set (i := 2) sc_begin_of.nd rfl (Or.inl rfl) (pe_op op_add (pe_op op_mul pe_int (pv 2)) (pe_callTy call_int1 (by rfl) T.b_int bt_int (pa_cons (pe_cmpR op_eq (pv 3) pe_str (nomark _)) pa_nil))))))
      (pss_one (ps_ret (pe_op op_mul (pv 2) (pe_cal (c_size_of T) (hr.mono (by decide)) (by rfl) T.g_size_of (pa_cons (pv 0) (pa_cons (pv 1) pa_nil)))))))), ?_⟩
    refine ⟨_, rfl, _, rfl, ?_⟩
    refine forG z.length (fun i σ H' => Same H H' ∧ ∃ b, σ = [some (.int w), some (.str z), some (.int (val ((cl z).take i) : Nat)), b]) ⟨Same.refl H, _, rfl⟩ ?_ ?_ ?_ ?_
    · intro i σ H' hi _; exact hi
    · intro σ H' _; exact Nat.le_refl _
    · rintro i x σ H1 H2 hi ⟨e, b, rfl⟩ ⟨rfl, c, hc, rfl⟩
      have hcl : (cl z)[i]? = some c := by rw [cl, Array.getElem?_toList]; exact hc
      refine ⟨_, rfl, _, _, rfl, rfl, .inl ⟨by decide, by decide⟩, ?_⟩
      refine ⟨_, rfl, rfl, ?_⟩
      refine .inr ⟨_, rfl, _, _, rfl, rfl, e, some (V.str ⟨#[c]⟩), ?_⟩
      have hd : decide (V.str ⟨#[c]⟩ = V.str "1") = decide (c = 49) := by
        by_cases q : c = 49
        · subst q; decide +kernel
        · rw [decide_eq_false q, decide_eq_false]
          intro z; cases z; exact q rfl
      rw [hd]
      have hv := val_take hcl
      show [some (V.int w), some (V.str z), some (V.int (2 * (val ((cl z).take i) : Nat) + if decide (c = 49) = true then 1 else 0)), some (V.str ⟨#[c]⟩)] = _
      rw [hv]
      by_cases q : c = 49 <;> simp [q]
    · rintro σ H' ⟨e, b, rfl⟩
      have et : (cl z).take z.length = cl z := by rw [← cl_len]; exact List.take_length
      rw [et]
      have hv := val_lt (cl z)
      rw [cl_len] at hv
      refine ⟨_, rfl, _, rfl, _, rfl, w, z, rfl, hw, hz, fun H2 e2 => ⟨_, _, rfl, rfl, ?_, ?_⟩⟩
      · by_cases q : z.length < 64
        · refine .inl ⟨by omega, ?_⟩
          have : 2 ^ z.length ≤ 2 ^ 64 := Nat.pow_le_pow_right (by decide) (by omega)
          omega
        · refine .inr ⟨?_, ?_⟩
          · have : 0 < 2 ^ (w - z.length) := Nat.two_pow_pos _
            omega
          · have : 2 ^ (w - z.length) < 2 ^ 64 := Nat.pow_lt_pow_right (by decide) (by omega)
            omega
      · have := k H2 (e.trans e2)
        rw [Int.natCast_mul] at this
        exact this

theorem bit_str (m : Nat) : ((toString (((m : Nat) : Int) % 2) : String) : Str) = ⟨#[48 + m % 2]⟩ := by
  rcases (show m % 2 = 0 ∨ m % 2 = 1 by omega) with h | h
  · rw [show ((m : Int) % 2) = 0 by omega, h]; decide +kernel
  · rw [show ((m : Int) % 2) = 1 by omega, h]; decide +kernel
def sp_address_of : Sp := fun vs H Q _ => ∃ w n : Nat, vs = [.int w, .int n] ∧ w ≤ 100 ∧ ∀ H', Same H H' → Q (.str (adr w n)) H'
/-! address_of: 0:width 1:begin 2:place 3:found 4:rest 5:bit -/
abbrev n_address_of : List Str := ["width", "begin", "place", "found", "rest", "bit"]
theorem sc_address_of : FnScope n_address_of ["width", "begin"] (defScope s_address_of) := ⟨rfl, rfl, rfl, by decide +kernel, rfl, by decide +kernel, by decide +kernel⟩
theorem c_address_of (T : Txt K mg) : Cal P w K mg base 1 (He.ga K "address_of") ["width", "begin"] sp_address_of := by
  refine T.d_address_of.cal sc_address_of (fun _ _ _ _ _ _ us hl => match us, hl with | [_, _], _ => rfl) (fun vs H Q E h => ?_) (fun cdv A outer s H vs Q E hr h => ?_)
  · obtain ⟨_, _, rfl, _⟩ := h; rfl
  · obtain ⟨w, n, rfl, hw, k⟩ := h
    refine ⟨_, (pss_cons (ps_par (i := 3) (j := 4) rfl sc_address_of.nd rfl rfl (by decide) rfl rfl (pa_cons pe_str (pa_cons (pv 1) pa_nil)) (by rfl))
      (pss_cons (ps_for PassesOwn.never rfl (pi_range1 (by rfl) T.b_range (pa_cons (pv 0) pa_nil)) (pg_name (i := 2) sc_address_of.nd rfl (Or.inl rfl))
        (pss_cons (ps_asg (pe_callB call_divmodW (by rfl) T.b_divmod bt_divmod (pa_cons (pv 4) (pa_cons pe_int pa_nil))) (kpg_tup K (n := 2) rfl (pgs_cons (pg_name (i := 4) sc_address_of.nd rfl (Or.inl rfl)) (pgs_cons (pg_name (i := 5) sc_address_of.nd rfl (Or.inl rfl)) pgs_nil))))
        (pss_one (ps_set (i := 3) sc_address_of.nd rfl (Or.inl rfl) (pe_op op_add_str (pe_callTy call_str_int (by rfl) T.b_str bt_str (pa_cons (pv 5) pa_nil)) (pv 3))))))
      (pss_one (ps_ret (pv 3))))), ?_⟩
    refine ⟨_, rfl, _, _, rfl, ?_⟩
    refine ⟨_, rfl, _, rfl, by omega, by omega, ?_⟩
    refine forG w (fun i σ H' => Same H H' ∧ ∃ p b, σ = [some (.int w), some (.int n), p, some (.str (adr i n)), some (.int (n / 2 ^ i : Nat)), b]) ⟨Same.refl H, none, none, ?_⟩ ?_ ?_ ?_ ?_
    · show [some (V.int w), some (V.int n), none, some (V.str ""), some (V.int n), none] = _
      simp only [Nat.pow_zero, Nat.div_one]
      rfl
    · intro i σ H' hi _; show i < _; omega
    · intro σ H' _; show _ ≤ _; omega
    · rintro i x σ H1 H2 hi ⟨e, p, b, rfl⟩ ⟨rfl, rfl⟩
      refine ⟨_, rfl, _, _, rfl, ⟨by decide, PyProof.noPylong_small (by decide)⟩, fun q nq => ?_⟩
      refine ⟨_, _, rfl, .inl (.inl upd_same), rfl, _, _, rfl, _, _, rfl, rfl, ?_⟩
      refine ⟨_, rfl, _, rfl, ?_, ?_⟩
      · have : ((n / 2 ^ i : Nat) : Int) % 2 < 2 := Int.emod_lt_of_pos _ (by decide)
        have : 0 ≤ ((n / 2 ^ i : Nat) : Int) % 2 := Int.emod_nonneg _ (by decide)
        have h3 : (((n / 2 ^ i : Nat) : Int) % 2).natAbs < 2 := by omega
        have : (((n / 2 ^ i : Nat) : Int) % 2).natAbs.log2 ≤ 1 := by
          rcases (show (((n / 2 ^ i : Nat) : Int) % 2).natAbs = 0 ∨ (((n / 2 ^ i : Nat) : Int) % 2).natAbs = 1 by omega) with h | h <;> rw [h] <;> decide
        omega
      · refine ⟨_, rfl, _, _, rfl, rfl, ?_, e.trans (same_upd nq), some (.int (0 + (i : Nat))), some (.int ((n / 2 ^ i : Nat) % 2 : Nat)), ?_⟩
        · have l2 : (adr i n).length = i := (adr_ok i n).2
          rw [bit_str, l2]
          exact le_line (by show 1 + i ≤ _; omega)
        · rw [bit_str]
          have e1 : ((n / 2 ^ i : Nat) : Int) / 2 = ((n / 2 ^ (i + 1) : Nat) : Int) := by
            rw [Nat.pow_succ, ← Nat.div_div_eq_div_mul]
            omega
          have e2 : (⟨#[48 + n / 2 ^ i % 2]⟩ : Str) ++ adr i n = adr (i + 1) n := by
            show (⟨#[48 + n / 2 ^ i % 2] ++ (adr i n).cps⟩ : Str) = _
            simp [adr, lowL]
          show [some (V.int w), some (V.int n), some (V.int (0 + (i : Nat))), some (V.str ((⟨#[48 + n / 2 ^ i % 2]⟩ : Str) ++ adr i n)), some (V.int (((n / 2 ^ i : Nat) : Int) / 2)), some (V.int (((n / 2 ^ i : Nat) : Int) % 2))] = _
          rw [e1, e2]
          simp
    · rintro σ H' ⟨e, p, b, rfl⟩
      exact ⟨_, rfl, k H' e⟩

def sp_last_hop : Sp := fun vs H Q _ => ∃ (a : Addr) (wy : List (Str × Str)) (h : Str), vs = [.ref a, .str h] ∧ Rd H a (.dK (dk wy)) ∧ wy.length ≤ 100 ∧ ∀ H', Same H H' → Q (.str (lastHop wy wy.length h)) H'
/-! last_hop: 0:way 1:hop 2:here 3:turn -/
abbrev n_last_hop : List Str := ["way", "hop", "here", "turn"]
theorem sc_last_hop : FnScope n_last_hop ["way", "hop"] (defScope s_last_hop) := ⟨rfl, rfl, rfl, by decide +kernel, rfl, by decide +kernel, by decide +kernel⟩
theorem c_last_hop (T : Txt K mg) : Cal P w K mg base 1 (He.ga K "last_hop") ["way", "hop"] sp_last_hop := by
  refine T.d_last_hop.cal sc_last_hop (fun _ _ _ _ _ _ us hl => match us, hl with | [_, _], _ => rfl) (fun vs H Q E h => ?_) (fun cdv A outer s H vs Q E hr h => ?_)
  · obtain ⟨_, _, _, rfl, _⟩ := h; rfl
  · obtain ⟨a, wy, h, rfl, ha, hl, k⟩ := h
    have hu := hu_of hr
    refine ⟨_, (pss_cons (ps_set (i := 2) sc_last_hop.nd rfl (Or.inl rfl) (pv 1))
      (pss_cons (ps_for PassesOwn.never rfl (pi_range1 (by rfl) T.b_range (pa_cons (pe_callB call_lenR (by rfl) T.b_len bt_len (pa_cons (pv 0) pa_nil)) pa_nil)) (pg_name (i := 3) sc_last_hop.nd rfl (Or.inl rfl))
        (pss_one (ps_set (i := 2) sc_last_hop.nd rfl (Or.inl rfl) (pe_dget2 hu (pv 0) (pv 2) (pv 2) ⟨rfl, rfl, rfl, rfl⟩))))
      (pss_one (ps_ret (pv 2))))), ?_⟩
    refine ⟨_, rfl, _, rfl, a, _, rfl, ha, _, rfl, ?_, ?_, ?_⟩
    · rw [dk_len]; omega
    · rw [dk_len]; omega
    refine forG wy.length (fun i σ H' => Same H H' ∧ ∃ t, σ = [some (.ref a), some (.str h), some (.str (lastHop wy i h)), t]) ⟨Same.refl H, _, rfl⟩ ?_ ?_ ?_ ?_
    · intro i σ H' hi _; show i < _; rw [dk_len]; omega
    · intro σ H' _; show _ ≤ _; rw [dk_len]; omega
    · rintro i x σ H1 H2 hi ⟨e, t, rfl⟩ ⟨rfl, rfl⟩
      refine ⟨_, rfl, a, rfl, ?_, _, rfl, _, rfl, _, .inl ⟨_, Sum.inr _, rd_same e ha, rfl, rfl⟩, e, some (V.int (0 + (i : Nat))), ?_⟩
      · exact .inl ⟨_, rd_same e ha⟩
      · show [some (V.ref a), some (V.str h), some ((valV (dk wy) (Sum.inr (lastHop wy i h) : Key)).getD (.str (lastHop wy i h))), some (V.int (0 + (i : Nat)))] = _
        rw [valV_dk]
        show _ = [some (V.ref a), some (V.str h), some (V.str (nxt wy (lastHop wy i h))), some (V.int (0 + (i : Nat)))]
        unfold nxt
        cases wy.lookup (lastHop wy i h) <;> rfl
    · rintro σ H' ⟨e, t, rfl⟩
      exact ⟨_, rfl, k H' e⟩
end
end Cw

/-! CwD -/
set_option Elab.async false
set_option linter.all false
set_option maxRecDepth 100000
set_option maxHeartbeats 4000000
namespace Cw
open PySem PySem.Spec PyProof.Rows L2
section
variable {P : Program} {w : World} {K : PySem.W.Frag} {mg : Str → Option Value} {base : Heap}
/-! ways, heads, members -/
theorem way_perm {it : Item} {wy : List (Str × Str)} (h : WayOk it) (p : wy.Perm it.wy) : WayOk { it with wy := wy } where
  nd := (p.map _).nodup_iff.mpr h.nd
  kp := fun z => h.kp ((p.map _).mem_iff.mp z)
  rk0 := h.rk0
  dn := fun q hq => h.dn q (p.mem_iff.mp hq)
  le := fun q hq => by rw [show ({ it with wy := wy } : Item).wy.length = it.wy.length from p.length_eq]; exact h.le q (p.mem_iff.mp hq)
  val := fun q hq => by
    rcases h.val q (p.mem_iff.mp hq) with z | z
    · exact .inl z
    · exact .inr ((p.map _).mem_iff.mpr z)
  few := by rw [show ({ it with wy := wy } : Item).wy.length = it.wy.length from p.length_eq]; exact h.few
theorem bools_all {α : Type} (l : List α) : (l.map fun _ => true).all id = true := by simp
def WayNames (wy : List (Str × Str)) : Prop := ∀ p ∈ wy, NameOk p.1 ∧ NameOk p.2
def sp_is_way : Sp := fun vs H Q _ => ∃ (a : Addr) (it : Item) (wy : List (Str × Str)), vs = [.ref a, .str it.kp] ∧ H a = some (.dK (dk wy)) ∧ wy.Perm it.wy ∧ WayOk it ∧ WayNames wy ∧ ∀ H', Same H H' → Q (.bl true) H'
/-! is_way: *0:value *1:keeper 2:hop -/
abbrev n_is_way : List Str := ["value", "keeper", "hop"]
theorem sc_is_way : FnScope n_is_way ["value", "keeper"] (defScope s_is_way) := ⟨rfl, rfl, rfl, by decide +kernel, rfl, by decide +kernel, by decide +kernel⟩
theorem c_is_way (T : Txt K mg) : Cal P w K mg base 2 (He.ga K "is_way") ["value", "keeper"] sp_is_way := by
  refine T.d_is_way.cal sc_is_way (fun _ _ _ _ _ _ us hl => match us, hl with | [_, _], _ => rfl) (fun vs H Q E h => ?_) (fun cdv A outer s H vs Q E hr h => ?_)
  · obtain ⟨_, _, _, rfl, _⟩ := h; rfl
  · obtain ⟨a, it, wy, rfl, ha, hp, hw0, hn, k⟩ := h
    have hw := way_perm hw0 hp
    have hl : wy.length ≤ 5 := hw.few
    have hu := hu_of hr
    refine ⟨_, (pss_cons (ps_if (PW.pt (pw_or (pt_not (pt_val (pe_callB (kcall_isi K) (by rfl) T.b_isinstance bt_isinstance (pa_cons (pv 0) (pa_cons (pe_bltn (v := .ty "dict") (by rfl) T.b_dict bt_dict rfl) pa_nil))))) (pw_or1 (pt_cmp (pc_din hu (pv 1) (pv 0))))))
        (pss_one (ps_ret pe_bl)) pss_nil)
      (pss_cons (ps_if (pt_not (pt_val (pe_callB (kcr_all K rfl) (by rfl) T.b_all bt_all (pa_cons (pe_lc (own := [("hop", 2)]) (g := gName 2) (tt := tYes) rfl sc_is_way.nd (kpi_list K (pe_op op_cat (pe_callTy (call_listD rfl) (by rfl) T.b_list bt_list (pa_cons (pv 0) pa_nil)) (pe_listValues rfl (pv 0) (by rfl) T.b_list bt_list))) (blkOk_by (N := n_is_way) (sc := defScope s_is_way) (by decide +kernel)) (fun _ _ _ _ _ => (pg_name (i := 2) sc_is_way.nd rfl (Or.inl rfl))) (fun _ _ _ _ _ => pts_nil) (fun _ _ _ _ _ => (pe_cal (c_is_name T) (hr.mono (by decide)) (by rfl) T.g_is_name (pa_cons (pv 2) pa_nil)))) pa_nil))))
        (pss_one (ps_ret pe_bl)) pss_nil)
      (pss_one (ps_ret (pe_callB (kcr_all K rfl) (by rfl) T.b_all bt_all (pa_cons (pe_lock (pe_lc (own := [("hop", 2)]) (g := gName 2) (tt := tYes) rfl sc_is_way.nd (pi_keys (pv 0)) (blkOk_by (N := n_is_way) (sc := defScope s_is_way) (by decide +kernel)) (fun _ _ _ _ _ => (pg_name (i := 2) sc_is_way.nd rfl (Or.inl rfl))) (fun _ _ _ _ _ => pts_nil) (fun _ _ _ _ _ => (pe_cmpR op_eq (pe_cal (c_last_hop T) (hr.mono (by decide)) (by rfl) T.g_last_hop (pa_cons (pv 0) (pa_cons (pv 2) pa_nil))) (pv 1) (nomark _))))) pa_nil)))))), ?_⟩
    refine ⟨_, rfl, _, _, _, _, _, rfl, .ty _, .base (.dK ha), kit_dd, true, rfl, ?_⟩
    refine iteF ⟨_, rfl, _, rfl, a, none, rfl, .inl ⟨_, Sum.inr it.kp, .inl ha, rfl, ?_⟩, false, rfl, ?_⟩
    · rw [valV_dk, lookup_none hw.kp]; rfl
    refine iteF ?_
    -- all names
    refine ⟨_, rfl, a, _, rfl, .inl ha, fun p np => ?_⟩
    have a1 : upd H p (.lst ((dk wy).map fun kv => kV kv.1)) a = some (.dK (dk wy)) := same_upd np _ _ ha
    refine ⟨_, rfl, a, _, rfl, a1, fun q nq => ?_⟩
    have e1 : (dk wy).map (fun kv => kV kv.1) = sL (keys wy) := by simp [dk, sL, keys, kV]
    have e2 : (dk wy).map (·.2) = sL (wy.map (·.2)) := by simp [dk, sL]
    rw [e1] at nq ⊢
    rw [e2]
    refine ⟨p, q, _, _, rfl, rfl, (by rw [upd_ne (ne_of_none upd_same nq)]; exact upd_same), upd_same, ?_, fun r nr => ?_⟩
    · refine le_line ?_
      simp [sL, keys]; omega
    have s1 : Same H (upd (upd (upd H p (.lst (sL (keys wy)))) q (.lst (sL (wy.map (·.2))))) r (.lst (sL (keys wy) ++ sL (wy.map (·.2))))) := ((same_upd np).trans (same_upd nq)).trans (same_upd nr)
    have e3 : sL (keys wy) ++ sL (wy.map (·.2)) = sL (keys wy ++ wy.map (·.2)) := by simp [sL]
    rw [e3] at s1 ⊢
    refine ⟨r, rfl, ⟨_, SqL.of upd_same⟩, ?_⟩
    refine lcY (keys wy ++ wy.map (·.2)) (fun _ v _ => v = .bl true) (by simp [keys]; omega) (fun _ _ _ _ _ h => h) ?_ ?_ ?_ ?_
    · intro i H' hi e; exact itl_go (SqL.of (e _ _ upd_same)) (by rw [sL_len]; exact hi)
    · intro H' e; exact itl_stop (SqL.of (e _ _ upd_same)) (sL_len _)
    · intro i d D x H1 H2 hd hD hD1 e y Ry Rn hy
      obtain ⟨rfl, hx⟩ := y
      have hx' := hx _ (SqL.of (off_le _ _ (e _ _ upd_same)))
      rw [sL, List.getElem?_map, hd] at hx'
      cases hx'
      refine ⟨rfl, _, rfl, d, rfl, ?_, fun H' e' => hy _ _ e' rfl⟩
      rcases List.mem_append.mp (List.mem_of_getElem? hd) with m | m
      · obtain ⟨z, hz, rfl⟩ := List.mem_map.mp m; exact (hn z hz).1
      · obtain ⟨z, hz, rfl⟩ := List.mem_map.mp m; exact (hn z hz).2
    · intro D H2 ys nD e hD hp2
      have ey := paired_bl (bf := fun _ => true) hp2
      refine ⟨D, _, rfl, SqL.of (by rw [hD, ey]), true, by rw [bools_all], iteF ?_⟩
      have s2 : Same H H2 := s1.trans (e.trans off_le)
      -- last hops
      refine ⟨a, .dK (dk wy), s2 _ _ ha, trivial, fun od => ?_⟩
      have s3 : Same H (upd (upd H2 a (.frz od (.dK (dk wy)))) a (.dK (dk wy))) := s2.trans (unlock (s2 _ _ ha) (Same.refl _))
      refine ⟨_, rfl, a, od, rfl, .inl ⟨_, upd_same, ?_⟩⟩
      refine lcY wy (fun _ v _ => v = .bl true) (by omega) (fun _ _ _ _ _ h => h) ?_ ?_ ?_ ?_
      · intro i H' hi e; exact ⟨e _ _ upd_same, by rw [dk_len]; exact hi⟩
      · intro H' e; exact ⟨e _ _ upd_same, by rw [dk_len]; exact Nat.le_refl _⟩
      · intro i d D x H1 H3 hd hD hD1 e y Ry Rn hy
        obtain ⟨rfl, kk, vv, hx, rfl⟩ := y
        rw [dk, List.getElem?_map, hd] at hx
        cases hx
        refine ⟨rfl, _, rfl, _, rfl, a, wy, d.1, rfl, .inr ⟨od, off_le _ _ (e _ _ upd_same)⟩, by omega, fun H' e' => ?_⟩
        refine ⟨_, rfl, rfl, ?_⟩
        have le : lastHop wy wy.length d.1 = it.kp := last_end hw (.inl (List.mem_map.mpr ⟨d, List.mem_of_getElem? hd, rfl⟩))
        rw [le, decide_eq_true rfl]
        exact hy _ _ e' rfl
      · intro D H4 ys nD e hD hp3
        have ey := paired_bl (bf := fun _ => true) hp3
        refine ⟨e.trans off_le _ _ upd_same, ?_⟩
        have hDa : D ≠ a := fun z => by rw [z, upd_same] at nD; cases nD
        refine ⟨D, _, rfl, SqL.of (by rw [upd_ne hDa, hD, ey]), ?_⟩
        rw [bools_all]
        exact k _ (s2.trans (unlock (s2 _ _ ha) (e.trans off_le)))

def sp_want_head : Sp := fun vs H Q _ => ∃ n st kp : Str, vs = [.str n, .str st, .str kp] ∧ NameOk n ∧ isBits st ∧ st.length ≤ 100 ∧ NameOk kp ∧ ∀ H', Same H H' → Q .non H'
/-! want_head: 0:name 1:stretch 2:keeper -/
abbrev n_want_head : List Str := ["name", "stretch", "keeper"]
theorem sc_want_head : FnScope n_want_head ["name", "stretch", "keeper"] (defScope s_want_head) := ⟨rfl, rfl, rfl, by decide +kernel, rfl, by decide +kernel, by decide +kernel⟩
theorem c_want_head (T : Txt K mg) : Cal P w K mg base 2 (He.ga K "want_head") ["name", "stretch", "keeper"] sp_want_head := by
  refine T.d_want_head.cal sc_want_head (fun _ _ _ _ _ _ us hl => match us, hl with | [_, _, _], _ => rfl) (fun vs H Q E h => ?_) (fun cdv A outer s H vs Q E hr h => ?_)
  · obtain ⟨_, _, _, rfl, _⟩ := h; rfl
  · obtain ⟨n, st, kp, rfl, hn, hs, hl, hk, k⟩ := h
    obtain ⟨tLONGEST, hLONGEST⟩ := T.i_LONGEST
    refine ⟨_, (pss_cons (ps_if (pt_not (pt_val (pe_cal (c_is_name T) (hr.mono (by decide)) (by rfl) T.g_is_name (pa_cons (pv 0) pa_nil))))
        pss_never pss_nil)
      (pss_cons (ps_if (PW.pt (pw_or (pt_not (pt_val (pe_cal (c_is_bits T) (hr.mono (by decide)) (by rfl) T.g_is_bits (pa_cons (pv 1) pa_nil)))) (pw_or1 (pt_cmpR op_gt (pe_callB call_len_str (by rfl) T.b_len bt_len (pa_cons (pv 1) pa_nil)) (pe_glob (v := .int 100) rfl hLONGEST ⟨_, rfl⟩) (nomark _)))))
        pss_never pss_nil)
      (pss_one (ps_if (pt_not (pt_val (pe_cal (c_is_name T) (hr.mono (by decide)) (by rfl) T.g_is_name (pa_cons (pv 2) pa_nil))))
        pss_never pss_nil)))), ?_⟩
    refine ⟨_, rfl, n, rfl, hn, fun H1 e1 => ⟨_, rfl, iteF ?_⟩⟩
    refine ⟨_, rfl, st, rfl, hs, by omega, fun H2 e2 => ⟨_, rfl, iteF ?_⟩⟩
    refine ⟨_, rfl, st, rfl, le_line (by omega), _, _, rfl, rfl, _, rfl, ?_⟩
    rw [decide_eq_false (by omega)]
    refine iteF ⟨_, rfl, kp, rfl, hk, fun H3 e3 => ⟨_, rfl, iteF (k H3 ((e1.trans e2).trans e3))⟩⟩

def sp_want_members : Sp := fun vs H Q _ => ∃ (a : Addr) (ms : List Str) (n : Str), vs = [.ref a, .str n] ∧ H a = some (.lst (sL ms)) ∧ ms ≠ [] ∧ ms.length ≤ 100 ∧ ms.Nodup ∧ (∀ m ∈ ms, NameOk m ∧ m ≠ n) ∧ ∀ H', Same H H' → Q .non H'
/-! want_members: 0:members 1:name 2:position 3:member -/
abbrev n_want_members : List Str := ["members", "name", "position", "member"]
theorem sc_want_members : FnScope n_want_members ["members", "name"] (defScope s_want_members) := ⟨rfl, rfl, rfl, by decide +kernel, rfl, by decide +kernel, by decide +kernel⟩
theorem c_want_members (T : Txt K mg) : Cal P w K mg base 2 (He.ga K "want_members") ["members", "name"] sp_want_members := by
  refine T.d_want_members.cal sc_want_members (fun _ _ _ _ _ _ us hl => match us, hl with | [_, _], _ => rfl) (fun vs H Q E h => ?_) (fun cdv A outer s H vs Q E hr h => ?_)
  · obtain ⟨_, _, _, rfl, _⟩ := h; rfl
  · obtain ⟨a, ms, n, rfl, ha, h0, hl, nd, hm, k⟩ := h
    refine ⟨_, (pss_cons (ps_if (PW.pt (pw_or (pt_not (pt_val (pe_cal (c_is_list T) (hr.mono (by decide)) (by rfl) T.g_is_list (pa_cons (pv 0) pa_nil)))) (pw_or1 (pt_cmpR op_eq (pe_callB (kcall_len_seq K) (by rfl) T.b_len bt_len (pa_cons (pv 0) pa_nil)) pe_int (nomark _)))))
        pss_never pss_nil)
      (pss_one (ps_for PassesOwn.never rfl (kpi_enum K (by rfl) T.b_enumerate (pa_cons (pv 0) pa_nil)) (kpg_tup K (n := 2) rfl (pgs_cons (pg_name (i := 2) sc_want_members.nd rfl (Or.inl rfl)) (pgs_cons (pg_name (i := 3) sc_want_members.nd rfl (Or.inl rfl)) pgs_nil)))
        (pss_one (ps_if (PW.pt (pw_or (pt_not (pt_val (pe_cal (c_is_name T) (hr.mono (by decide)) (by rfl) T.g_is_name (pa_cons (pv 3) pa_nil)))) (pw_or (pt_cmpR op_eq (pv 3) (pv 1) (nomark _)) (pw_or1 (pt_cmpR (kop_in_seq K) (pv 3) (pe_slice (ksl_list K) (pv 0) po_none (po_some (pv 2))) (by rfl))))))
          pss_never pss_nil))))), ?_⟩
    refine ⟨_, rfl, a, _, rfl, ha, fun H1 e1 => ⟨_, rfl, iteF ?_⟩⟩
    refine ⟨_, rfl, a, _, rfl, .inl (SqL.of (e1 _ _ ha)), rfl, _, rfl, ?_⟩
    rw [decide_eq_false (by
      intro z
      cases z2 : ms with
      | nil => exact h0 z2
      | cons x r =>
        rw [z2, sL_len] at z
        injection z with z
        simp at z
        omega)]
    refine iteF ⟨_, rfl, a, _, rfl, SqL.of (e1 _ _ ha), ?_⟩
    refine forG ms.length (fun i σ H' => Same H1 H' ∧ ∃ p m, σ = [some (.ref a), some (.str n), p, m]) ⟨Same.refl H1, _, _, rfl⟩ ?_ ?_ ?_ ?_
    · rintro i σ H' hi ⟨e, _⟩
      have hi' : i < (sL ms).length := by rw [sL_len]; exact hi
      exact ⟨_, _, SqL.of (e _ _ (e1 _ _ ha)), List.getElem?_eq_getElem hi'⟩
    · rintro σ H' ⟨e, _⟩
      exact ⟨_, SqL.of (e _ _ (e1 _ _ ha)), Nat.le_of_eq (sL_len ms)⟩
    · rintro i x σ H2 H3 hi ⟨e, p, m, rfl⟩ ⟨T0, v, rfl, nT, rfl, hx⟩
      obtain ⟨d, hd⟩ : ∃ d, ms[i]? = some d := ⟨_, List.getElem?_eq_getElem hi⟩
      have hx' := hx _ (SqL.of (e _ _ (e1 _ _ ha)))
      rw [sL, List.getElem?_map, hd] at hx'
      cases hx'
      have hdm := hm d (List.mem_of_getElem? hd)
      refine ⟨_, _, rfl, .inl (.inl upd_same), rfl, _, _, rfl, _, _, rfl, rfl, ?_⟩
      refine ⟨_, rfl, d, rfl, hdm.1, fun H4 e4 => ⟨_, rfl, iteF ?_⟩⟩
      refine ⟨_, rfl, _, rfl, rfl, _, rfl, ?_⟩
      rw [decide_eq_false (by intro z; injection z with z; exact hdm.2 z)]
      refine iteF ⟨_, rfl, _, rfl, _, rfl, _, rfl, a, _, rfl, SqL.of (e4 _ _ (same_upd nT _ _ (e _ _ (e1 _ _ ha)))), fun q nq => ?_⟩
      have ec : cutV (sL ms) none (some ((i : Nat) : Int)) = sL (ms.take i) := by
        unfold cutV
        rw [HT.sIx_none, HT.sIx_nat, sL_len]
        simp [sL, Nat.min_eq_left (Nat.le_of_lt hi)]
      rw [ec]
      refine ⟨_, _, rfl, .inl (SqL.of upd_same), rfl, flat_str _, _, rfl, ?_⟩
      have : inV (.str d) (sL (ms.take i)) = false := by
        rw [inV_str, Bool.eq_false_iff]
        intro z
        have z2 := List.contains_iff_mem.mp z
        obtain ⟨j, hj, ej⟩ := List.mem_iff_getElem.mp z2
        have hj2 : j < i := by rw [List.length_take] at hj; omega
        rw [List.getElem_take] at ej
        have := nodup_ix nd (i := j) (j := i) (by rw [List.getElem?_eq_getElem (by omega), ej]) hd
        omega
      rw [if_neg (by decide), this]
      exact iteF ⟨((e.trans (same_upd nT)).trans e4).trans (same_upd nq), _, _, rfl⟩
    · rintro σ H' ⟨e, _⟩
      exact k H' (e1.trans e)
end
end Cw

/-! CwE -/
set_option Elab.async false
set_option linter.all false
set_option maxRecDepth 100000
set_option maxHeartbeats 4000000
namespace Cw
open PySem PySem.Spec PyProof.Rows L2
section
variable {P : Program} {w : World} {K : PySem.W.Frag} {mg : Str → Option Value} {base : Heap}
/-! items: made and read -/
structure ItOk (it : Item) : Prop where
  kle : it.k ≤ 2
  nm : NameOk it.nm
  st : isBits it.st
  stl : it.st.length ≤ 100
  kp : NameOk it.kp
  way : WayOk it
  wn : WayNames it.wy
  mb : it.k ≠ 0 → it.mb ≠ [] ∧ it.mb.length ≤ 10 ∧ it.mb.Nodup ∧ (∀ m ∈ it.mb, NameOk m ∧ m ≠ it.nm) ∧ sortedS it.mb = true
def parts0 (it : Item) (wA : Addr) : List V := [.str (wordOf it.k), .str it.nm, .str it.st, .str it.kp, .ref wA]
abbrev F1 (x1 : V) : List (Str × V) := [("name", x1)]
abbrev F2 (x1 x2 : V) : List (Str × V) := [("name", x1), ("stretch", x2)]
abbrev F3 (x1 x2 x3 : V) : List (Str × V) := [("name", x1), ("stretch", x2), ("keeper", x3)]
abbrev F4 (x1 x2 x3 x4 : V) : List (Str × V) := [("name", x1), ("stretch", x2), ("keeper", x3), ("own_way", x4)]
abbrev F5 (x1 x2 x3 x4 x5 : V) : List (Str × V) := [("name", x1), ("stretch", x2), ("keeper", x3), ("own_way", x4), ("own_parts", x5)]
abbrev F6 (x1 x2 x3 x4 x5 x6 : V) : List (Str × V) := [("name", x1), ("stretch", x2), ("keeper", x3), ("own_way", x4), ("own_parts", x5), ("own_members", x6)]
theorem put_miss {f g : Str} {x v : V} {r : List (Str × V)} (h : g ≠ f) : putF f v ((g, x) :: r) = (g, x) :: putF f v r := by rw [putF, if_neg h]
theorem put_hit {f : Str} {x v : V} {r : List (Str × V)} : putF f v ((f, x) :: r) = (f, v) :: r := by rw [putF, if_pos rfl]
section
variable {x1 x2 x3 x4 x5 x6 y : V}
theorem pf1 : putF ("name" : Str) y [] = F1 y := rfl
theorem pf2 : putF ("stretch" : Str) y (F1 x1) = F2 x1 y := by
  rw [put_miss (by decide +kernel)]; rfl
theorem pf3 : putF ("keeper" : Str) y (F2 x1 x2) = F3 x1 x2 y := by
  rw [put_miss (by decide +kernel), put_miss (by decide +kernel)]; rfl
theorem pf4 : putF ("own_way" : Str) y (F3 x1 x2 x3) = F4 x1 x2 x3 y := by
  rw [put_miss (by decide +kernel), put_miss (by decide +kernel), put_miss (by decide +kernel)]; rfl
theorem pf4b : putF ("own_way" : Str) y (F4 x1 x2 x3 x4) = F4 x1 x2 x3 y := by
  rw [put_miss (by decide +kernel), put_miss (by decide +kernel), put_miss (by decide +kernel), put_hit]
theorem pf5 : putF ("own_parts" : Str) y (F4 x1 x2 x3 x4) = F5 x1 x2 x3 x4 y := by
  rw [put_miss (by decide +kernel), put_miss (by decide +kernel), put_miss (by decide +kernel), put_miss (by decide +kernel)]; rfl
theorem pf6 : putF ("own_members" : Str) y (F5 x1 x2 x3 x4 x5) = F6 x1 x2 x3 x4 x5 y := by
  rw [put_miss (by decide +kernel), put_miss (by decide +kernel), put_miss (by decide +kernel), put_miss (by decide +kernel), put_miss (by decide +kernel)]; rfl
theorem pf7 : putF ("own_parts" : Str) y (F6 x1 x2 x3 x4 x5 x6) = F6 x1 x2 x3 x4 y x6 := by
  rw [put_miss (by decide +kernel), put_miss (by decide +kernel), put_miss (by decide +kernel), put_miss (by decide +kernel), put_hit]
end
def fl0 (it : Item) (wA pA : Addr) : List (Str × V) := F5 (.str it.nm) (.str it.st) (.str it.kp) (.ref wA) (.ref pA)
theorem keys_map {w : List (Str × Str)} (nd : (keys w).Nodup) : (keys w).map (fun h => (h, (w.lookup h).getD h)) = w := by
  have : ∀ p ∈ w, (p.1, (w.lookup p.1).getD p.1) = p := fun p hp => by
    rw [nodup_lookup nd (show (p.1, p.2) ∈ w from hp)]; rfl
  rw [keys, List.map_map]
  conv => rhs; rw [← List.map_id w]
  exact List.map_congr_left this
/-- all as it was but for the object at a -/
def But (a : Addr) (H H' : Hp) : Prop := ∀ b o, b ≠ a → H b = some o → H' b = some o
theorem but_refl {a : Addr} {H : Hp} : But a H H := fun _ _ _ h => h
theorem But.same {a : Addr} {H H' H2 : Hp} (h : But a H H') (e : Same H' H2) : But a H H2 := fun b o n x => e _ _ (h b o n x)
theorem But.set {a : Addr} {H H' : Hp} {o : HO} (h : But a H H') : But a H (upd H' a o) := fun b u n x => by rw [upd_ne n]; exact h b u n x
theorem But.of {a : Addr} {H H' : Hp} (e : Same H H') : But a H H' := fun b o _ x => e _ _ x
theorem But.trans {a : Addr} {H H' H2 : Hp} (h : But a H H') (g : But a H' H2) : But a H H2 := fun b o n x => g b o n (h b o n x)
theorem But.back {a : Addr} {G H H' : Hp} (h : But a H H') (e : Same G H) (n : G a = none) : Same G H' := fun b o x => h b o (ne_of_none x n) (e _ _ x)

def sp_Item_init (K : PySem.W.Frag) : Sp := fun vs H Q _ => ∃ (a dx b : Addr) (it : Item) (wy : List (Str × Str)), vs = [.ref a, .str it.nm, .str it.st, .str it.kp, .ref b] ∧ H a = some (.ins (clsOf K it.k) dx []) ∧ H b = some (.dK (dk wy)) ∧ wy.Perm it.wy ∧ ItOk it ∧
  ∀ H' wA pA wy', But a H H' → H' a = some (.ins (clsOf K it.k) dx (fl0 it wA pA)) → wy'.Perm it.wy → H' wA = some (.dK (dk wy')) → H' pA = some (.tup (parts0 it wA)) → Q .non H'
/-! Item.__init__: 0:self 1:name 2:stretch 3:keeper *4:way 5:hop -/
abbrev n_Item_init : List Str := ["self", "name", "stretch", "keeper", "way", "hop"]
theorem sc_Item_init : FnScope n_Item_init ["self", "name", "stretch", "keeper", "way"] (defScope s_Item_init) := ⟨rfl, rfl, rfl, by decide +kernel, rfl, by decide +kernel, by decide +kernel⟩
theorem c_Item_init (T : Txt K mg) : Cal P w K mg base 3 (He.ma K (He.ga K "Item") "__init__") ["self", "name", "stretch", "keeper", "way"] (sp_Item_init K) := by
  refine T.d_Item_init.cald (by decide) sc_Item_init (fun _ _ _ _ _ _ _ us its hl hi => match us, its, hl, hi with | [_, _, _, _, _], [_], _, _ => ⟨_, rfl, rfl⟩) (fun vs H Q E h => ?_) (fun cdv A outer s H vs Q E hr h => ?_)
  · obtain ⟨_, _, _, _, _, rfl, _⟩ := h; rfl
  · obtain ⟨a, dx, b, it, wy, rfl, ha, hb, hp, ok, k⟩ := h
    have hba : b ≠ a := fun z => by rw [z, ha] at hb; cases hb
    have cC := clsC T (k := it.k)
    have hw := way_perm ok.way hp
    have nd : (keys wy).Nodup := hw.nd
    have hl : wy.length ≤ 5 := hw.few
    obtain ⟨uw, hword⟩ := cC.word
    have hu := hu_of hr
    refine ⟨_, (pss_cons (ps_expr (pe_cal (c_want_head T) (hr.mono (by decide)) (by rfl) T.g_want_head (pa_cons (pv 1) (pa_cons (pv 2) (pa_cons (pv 3) pa_nil)))))
      (pss_cons (ps_if (PW.pt (pw_and (pt_cmpR op_notN (pv 4) pe_non (nomark _)) (pw_and1 (pt_not (pt_val (pe_cal (c_is_way T) (hr.mono (by decide)) (by rfl) T.g_is_way (pa_cons (pv 4) (pa_cons (pv 3) pa_nil))))))))
        pss_never pss_nil)
      (pss_cons (ps_fld (pv 0) (pv 1) rfl)
      (pss_cons (ps_fld (pv 0) (pv 2) rfl)
      (pss_cons (ps_fld (pv 0) (pv 3) rfl)
      (pss_cons (ps_fld (pv 0) pe_dnewK rfl)
      (pss_cons (ps_if (pt_cmpR op_notN (pv 4) pe_non (nomark _))
        (pss_one (ps_fld (pv 0) (pe_dc (own := [("hop", 5)]) (g := gName 5) (tt := tYes) rfl sc_Item_init.nd (kpi_list K (pe_callB (call_sortedD rfl) (by rfl) T.b_sorted bt_sorted (pa_cons (pv 4) pa_nil))) (blkOk_by (N := n_Item_init) (sc := defScope s_Item_init) (by decide +kernel)) (fun _ _ _ _ _ => (pg_name (i := 5) sc_Item_init.nd rfl (Or.inl rfl))) (fun _ _ _ _ _ => pts_nil) (fun _ _ _ _ _ => (pv 5)) (fun _ _ _ _ _ => (pe_dget hu (pv 4) (pv 5) (fun _ _ => rfl)))) rfl)) pss_nil)
      (pss_one (ps_fld (pv 0) (pe_tup (pa_cons (kpe_con K (pv 0) rfl) (pa_cons (pv 1) (pa_cons (pv 2) (pa_cons (pv 3) (pa_cons (kpe_fld K (pv 0) rfl) pa_nil)))))) rfl))))))))), ?_⟩
    refine ⟨_, rfl, _, rfl, _, rfl, it.nm, it.st, it.kp, rfl, ok.nm, ok.st, ok.stl, ok.kp, fun H1 e1 => ?_⟩
    refine ⟨_, rfl, rfl, true, rfl, ?_⟩
    refine iteT ⟨_, rfl, _, rfl, b, it, wy, rfl, e1 _ _ hb, hp, ok.way, fun p hp2 => ok.wn p (hp.mem_iff.mp hp2), fun H2 e2 => ⟨_, rfl, iteF ?_⟩⟩
    have a2 := e2 _ _ (e1 _ _ ha)
    have b2 := e2 _ _ (e1 _ _ hb)
    have B2 : But a H H2 := .of (e1.trans e2)
    refine ⟨_, rfl, _, rfl, a, _, dx, _, rfl, a2, cC.ins.cl, cC.n_name, Nat.zero_lt_succ _, ?_⟩
    rw [pf1]
    refine ⟨_, rfl, _, rfl, a, _, dx, _, rfl, upd_same, cC.ins.cl, cC.n_stretch, (by show (1 : Nat) < 1000; decide), ?_⟩
    rw [pf2]
    refine ⟨_, rfl, _, rfl, a, _, dx, _, rfl, upd_same, cC.ins.cl, cC.n_keeper, (by show (2 : Nat) < 1000; decide), ?_⟩
    rw [pf3]
    intro e0 ne0
    refine ⟨_, rfl, a, _, dx, _, rfl, same_upd ne0 _ _ upd_same, cC.ins.cl, cC.n_own_way, (by show (3 : Nat) < 1000; decide), ?_⟩
    rw [pf4]
    have B3 := ((((B2.set (o := .ins (clsOf K it.k) dx (F1 (.str it.nm)))).set (o := .ins (clsOf K it.k) dx (F2 (.str it.nm) (.str it.st)))).set (o := .ins (clsOf K it.k) dx (F3 (.str it.nm) (.str it.st) (.str it.kp)))).same (same_upd (o := .dK []) ne0)).set (o := .ins (clsOf K it.k) dx (F4 (.str it.nm) (.str it.st) (.str it.kp) (.ref e0)))
    generalize hG : upd (upd (upd (upd (upd H2 a _) a _) a _) e0 _) a _ = H3 at B3 ⊢
    have a3 : H3 a = some (.ins (clsOf K it.k) dx (F4 (.str it.nm) (.str it.st) (.str it.kp) (.ref e0))) := by rw [← hG]; exact upd_same
    have b3 := B3 _ _ hba hb
    refine ⟨_, rfl, rfl, true, rfl, iteT ?_⟩
    have ek : (dk wy).map (·.1) = (keys wy).map Sum.inr := by simp [dk, keys]
    have kl : (keys wy).length ≤ 5 := by rw [keys, List.length_map]; exact hl
    refine ⟨_, rfl, b, _, keys wy, rfl, .inl b3, ek, by omega, fun ys q py sy nq => ?_⟩
    have yl : ys.length ≤ 5 := by rw [py.length_eq]; exact kl
    refine ⟨q, rfl, ⟨_, SqL.of upd_same⟩, ?_⟩
    have s4 := same_upd (o := .lst (ys.map V.str)) nq
    refine dcG ys (fun h => h) (fun h v _ => v = .str ((wy.lookup h).getD h)) ?_ (by omega) (fun _ _ _ _ _ h => h) ?_ ?_ ?_ ?_
    · rw [List.map_id']; exact py.nodup_iff.mpr nd
    · intro i H' hi e; exact itl_go (SqL.of (e _ _ upd_same)) (by rw [List.length_map]; exact hi)
    · intro H' e; exact itl_stop (SqL.of (e _ _ upd_same)) (List.length_map ..)
    · intro i h D x G1 G2 hd hD hD1 e y Ry hy
      obtain ⟨rfl, hx⟩ := y
      have hx' := hx _ (SqL.of (off_le _ _ (e _ _ upd_same)))
      rw [List.getElem?_map, hd] at hx'
      cases hx'
      refine ⟨rfl, _, rfl, _, rfl, _, rfl, b, .str ((wy.lookup h).getD h), rfl, .inl ⟨_, Sum.inr h, .inl (off_le _ _ (e _ _ (s4 _ _ b3))), rfl, ?_⟩, hy _ _ (Same.refl _) rfl⟩
      have hm : h ∈ keys wy := py.mem_iff.mp (List.mem_of_getElem? hd)
      obtain ⟨z, ez, _⟩ := lookup_mem hm
      rw [valV_dk, ez]; rfl
    · intro D G2 kvs nD e hD hpk
      have ekv : kvs = dk (ys.map fun h => (h, (wy.lookup h).getD h)) := by
        have : Paired (fun h (q : Key × V) => q = (Sum.inr h, V.str ((wy.lookup h).getD h))) ys kvs := paired_mono hpk fun h q z => Prod.ext z.1 z.2
        rw [paired_eq this, dk, List.map_map]; rfl
      have p4 : (ys.map fun h => (h, (wy.lookup h).getD h)).Perm it.wy := by
        refine (py.map _).trans ?_
        rw [keys_map nd]
        exact hp
      rw [ekv] at hD
      have s5 : Same H3 G2 := s4.trans (e.trans off_le)
      refine ⟨_, rfl, a, _, dx, _, rfl, s5 _ _ a3, cC.ins.cl, cC.n_own_way, (by show (4 : Nat) < 1000; decide), ?_⟩
      rw [pf4b]
      have hDa : D ≠ a := fun z => by rw [z, s4 _ _ a3] at nD; cases nD
      refine ⟨_, rfl, a, _, dx, _, _, uw, rfl, upd_same, cC.ins.cl, hword, by rw [lk_miss (by decide +kernel), lk_miss (by decide +kernel), lk_miss (by decide +kernel), lk_miss (by decide +kernel)]; rfl, ?_⟩
      refine ⟨_, rfl, _, rfl, _, rfl, _, rfl, a, _, dx, _, _, rfl, upd_same, cC.ins.cl, cC.n_own_way, by rw [lk_miss (by decide +kernel), lk_miss (by decide +kernel), lk_miss (by decide +kernel), lk_hit], ?_⟩
      refine ⟨le_line (by show (5 : Nat) ≤ 100000; decide), fun pA npA => ?_⟩
      refine ⟨_, rfl, a, _, dx, _, rfl, same_upd npA _ _ upd_same, cC.ins.cl, cC.n_own_parts, (by show (4 : Nat) < 1000; decide), ?_⟩
      rw [pf5]
      have hpa : pA ≠ a := fun z => by rw [z, upd_same] at npA; cases npA
      refine k _ D pA _ (((B3.same s5).set.same (same_upd npA)).set) upd_same p4 ?_ ?_
      · rw [upd_ne hDa]
        exact same_upd npA _ _ (by rw [upd_ne hDa]; exact hD)
      · rw [upd_ne hpa]; exact upd_same

def sp_Item_way (K : PySem.W.Frag) : Sp := fun vs H Q _ => ∃ (p : Addr) (it : Item), vs = [.ref p] ∧ ItemAt K H p it ∧ ∀ H' q wy, Same H H' → H q = none → wy.Perm it.wy → H' q = some (.dK (dk wy)) → Q (.ref q) H'
/-! Item.way: 0:self -/
abbrev n_Item_way : List Str := ["self"]
theorem sc_Item_way : FnScope n_Item_way ["self"] (defScope s_Item_way) := ⟨rfl, rfl, rfl, by decide +kernel, rfl, by decide +kernel, by decide +kernel⟩
theorem c_Item_way (T : Txt K mg) : Cal P w K mg base 1 (He.ma K (He.ga K "Item") "way") ["self"] (sp_Item_way K) := by
  refine T.d_Item_way.cal sc_Item_way (fun _ _ _ _ _ _ us hl => match us, hl with | [_], _ => rfl) (fun vs H Q E h => ?_) (fun cdv A outer s H vs Q E hr h => ?_)
  · obtain ⟨_, _, rfl, _⟩ := h; rfl
  · obtain ⟨p, it, rfl, hi, k⟩ := h
    refine ⟨_, (pss_one (ps_ret (pe_callTy call_dictD (by rfl) T.b_dict bt_dict (pa_cons (kpe_fld K (pv 0) rfl) pa_nil)))), ?_⟩
    exact ⟨_, rfl, rd_way T hi fun wA wy pw hw => ⟨wA, _, rfl, .inl hw, fun q nq => k _ q wy (same_upd nq) nq pw upd_same⟩⟩

def sp_Item_sees (K : PySem.W.Frag) : Sp := fun vs H Q _ => ∃ (p : Addr) (it : Item), vs = [.ref p] ∧ ItemAt K H p it ∧ it.wy.length ≤ 5 ∧ ∀ H' q (ys : List Str), Same H H' → H q = none → ys.Perm (keys it.wy ++ [it.kp]) → H' q = some (.lst (sL ys)) → Q (.ref q) H'
/-! Item.sees: 0:self -/
abbrev n_Item_sees : List Str := ["self"]
theorem sc_Item_sees : FnScope n_Item_sees ["self"] (defScope s_Item_sees) := ⟨rfl, rfl, rfl, by decide +kernel, rfl, by decide +kernel, by decide +kernel⟩
theorem c_Item_sees (T : Txt K mg) : Cal P w K mg base 1 (He.ma K (He.ga K "Item") "sees") ["self"] (sp_Item_sees K) := by
  refine T.d_Item_sees.cal sc_Item_sees (fun _ _ _ _ _ _ us hl => match us, hl with | [_], _ => rfl) (fun vs H Q E h => ?_) (fun cdv A outer s H vs Q E hr h => ?_)
  · obtain ⟨_, _, rfl, _⟩ := h; rfl
  · obtain ⟨p, it, rfl, hi, hl, k⟩ := h
    refine ⟨_, (pss_one (ps_ret (pe_callB (kcr_sortedS K) (by rfl) T.b_sorted bt_sorted (pa_cons (pe_op op_cat (pe_callTy (call_listD rfl) (by rfl) T.b_list bt_list (pa_cons (kpe_fld K (pv 0) rfl) pa_nil)) (pe_lst (pa_cons (kpe_fld K (pv 0) rfl) pa_nil))) pa_nil)))), ?_⟩
    refine ⟨_, rfl, rd_way T hi fun wA wy pw hw => ⟨wA, _, rfl, .inl hw, fun q nq => ?_⟩⟩
    have e1 : (dk wy).map (fun kv => kV kv.1) = sL (keys wy) := by simp [dk, sL, keys, kV]
    have wl : wy.length ≤ 5 := by rw [pw.length_eq]; exact hl
    have kl : (sL (keys wy)).length ≤ 5 := by rw [sL_len, keys, List.length_map]; exact wl
    rw [e1]
    refine ⟨_, rfl, rd_keeper T (hi.mono (same_upd nq)) ⟨le_line (by show (1 : Nat) ≤ 100000; decide), fun r nr => ?_⟩⟩
    refine ⟨q, r, _, _, rfl, rfl, same_upd nr _ _ upd_same, upd_same, le_line (by show _ + 1 ≤ 100000; omega), fun t nt => ?_⟩
    have e2 : sL (keys wy) ++ [V.str it.kp] = (keys wy ++ [it.kp]).map V.str := by simp [sL]
    rw [e2]
    refine ⟨t, _, rfl, SqL.of upd_same, ?_, fun ys u py sy nu => ?_⟩
    · rw [List.length_append, keys, List.length_map]; simp; omega
    · exact k _ u ys ((((same_upd nq).trans (same_upd nr)).trans (same_upd nt)).trans (same_upd nu)) (((same_upd nq).trans (same_upd nr)).trans (same_upd nt) |>.free nu) (py.trans ((pw.map _).append_right _)) upd_same

def sp_Gatherer_members (K : PySem.W.Frag) : Sp := fun vs H Q _ => ∃ (p : Addr) (it : Item), vs = [.ref p] ∧ ItemAt K H p it ∧ it.k ≠ 0 ∧ ∀ H' q, Same H H' → H q = none → H' q = some (.lst (sL it.mb)) → Q (.ref q) H'
/-! Gatherer.members: 0:self -/
abbrev n_Gatherer_members : List Str := ["self"]
theorem sc_Gatherer_members : FnScope n_Gatherer_members ["self"] (defScope s_Gatherer_members) := ⟨rfl, rfl, rfl, by decide +kernel, rfl, by decide +kernel, by decide +kernel⟩
theorem c_Gatherer_members (T : Txt K mg) : Cal P w K mg base 1 (He.ma K (He.ga K "Gatherer") "members") ["self"] (sp_Gatherer_members K) := by
  refine T.d_Gatherer_members.cal sc_Gatherer_members (fun _ _ _ _ _ _ us hl => match us, hl with | [_], _ => rfl) (fun vs H Q E h => ?_) (fun cdv A outer s H vs Q E hr h => ?_)
  · obtain ⟨_, _, rfl, _⟩ := h; rfl
  · obtain ⟨p, it, rfl, hi, hk, k⟩ := h
    refine ⟨_, (pss_one (ps_ret (pe_callTy (kcall_list_of K) (by rfl) T.b_list bt_list (pa_cons (kpe_fld K (pv 0) rfl) pa_nil)))), ?_⟩
    exact ⟨_, rfl, rd_members T hi hk fun mA hm => ⟨mA, _, rfl, .inl (SqL.of hm), fun q nq => k _ q (same_upd nq) nq upd_same⟩⟩
end
end Cw

/-! CwF -/
set_option Elab.async false
set_option linter.all false
set_option maxRecDepth 100000
set_option maxHeartbeats 4000000
namespace Cw
open PySem PySem.Spec PyProof.Rows L2
section
variable {P : Program} {w : World} {K : PySem.W.Frag} {mg : Str → Option Value} {base : Heap}
/-! nets: checks of items -/
def right (g x : Item) : Prop := g.st.length < x.st.length ∧ pre g.st x.st ∧ sees x g.kp
structure NetOk (w : Nat) (its : List Item) : Prop where
  w1 : 1 ≤ w
  w2 : w ≤ 100
  ne : its ≠ []
  len : its.length ≤ 6
  ok : ∀ it ∈ its, ItOk it
  sw : ∀ it ∈ its, it.st.length ≤ w
  nmU : (its.map (·.nm)).Nodup
  stU : (its.map (·.st)).Nodup
  mem : ∀ g ∈ its, g.k ≠ 0 → ∀ m ∈ g.mb, ∃ x ∈ its, x.nm = m ∧ right g x
  dis : ((its.filter fun g => decide (g.k ≠ 0)).flatMap (·.mb)).Nodup
  hops : ∃ hs : List Str, hs.length ≤ 6 ∧ ∀ it ∈ its, it.kp ∈ hs ∧ ∀ h ∈ keys it.wy, h ∈ hs
  gath : (its.filter fun g => decide (g.k ≠ 0)).length ≤ 5
  nest : ∀ it ∈ its, (its.filter fun o => decide (pre o.st it.st)).length ≤ 5
def refs (ips : List (Addr × Item)) : List V := ips.map fun q => V.ref q.1
def Ats (K : PySem.W.Frag) (H : Hp) (ips : List (Addr × Item)) : Prop := ∀ q ∈ ips, ItemAt K H q.1 q.2
theorem Ats.mono {K : PySem.W.Frag} {H H' : Hp} {ips : List (Addr × Item)} (h : Ats K H ips) (e : Same H H') : Ats K H' ips := fun q hq => (h q hq).mono e
theorem refs_len (ips : List (Addr × Item)) : (refs ips).length = ips.length := List.length_map ..
theorem kit_LG (T : Txt K mg) (k : Nat) : PySem.W.kitAny K (.ref (clsOf K k)) [.ref (He.ga K "Leaf"), .ref (He.ga K "Gatherer")] = some true := by
  refine kitAny_cons (kit_Leaf T k) (fun h => ?_) (fun _ => rfl)
  refine kitAny_cons (kit_Gatherer T k) (fun h2 => ?_) (fun _ => rfl)
  have a := of_decide_eq_false h
  have b := of_decide_eq_false h2
  exact absurd (fun z => a z) (fun z => b z)
theorem not_in_take {α : Type} {l : List α} {f : α → Str} (nd : (l.map f).Nodup) {i : Nat} {d : α} (hd : l[i]? = some d) : ((l.take i).map f).contains (f d) = false := by
  rw [Bool.eq_false_iff]
  intro z
  have z2 := List.contains_iff_mem.mp z
  obtain ⟨j, hj, ej⟩ := List.mem_iff_getElem.mp z2
  rw [List.length_map, List.length_take] at hj
  have h1 : (l.map f)[j]? = some (f d) := by
    rw [List.getElem?_map]
    have : ((l.take i).map f)[j]? = some (f d) := by rw [List.getElem?_eq_getElem (by rw [List.length_map, List.length_take]; omega), ej]
    rw [List.getElem?_map, List.getElem?_take_of_lt (by omega)] at this
    exact this
  have h2 : (l.map f)[i]? = some (f d) := by rw [List.getElem?_map, hd]; rfl
  have := nodup_ix nd h1 h2
  omega
theorem map_take_snoc {α β : Type} {l : List α} {f : α → β} {i : Nat} {d : α} (hd : l[i]? = some d) : (l.take (i + 1)).map f = (l.take i).map f ++ [f d] := by
  rw [List.take_add_one, hd]; simp
def sp_want_items (K : PySem.W.Frag) : Sp := fun vs H Q _ => ∃ (w : Nat) (a : Addr) (ips : List (Addr × Item)), vs = [.int w, .ref a] ∧ H a = some (.lst (refs ips)) ∧ Ats K H ips ∧ ips ≠ [] ∧ ips.length ≤ 6 ∧ w ≤ 100 ∧
  (∀ q ∈ ips, q.2.st.length ≤ w) ∧ (ips.map (·.2.nm)).Nodup ∧ (ips.map (·.2.st)).Nodup ∧ ∀ H', Same H H' → Q .non H'
/-! want_items: 0:width 1:items 2:names 3:stretches 4:position 5:item -/
abbrev n_want_items : List Str := ["width", "items", "names", "stretches", "position", "item"]
theorem sc_want_items : FnScope n_want_items ["width", "items"] (defScope s_want_items) := ⟨rfl, rfl, rfl, by decide +kernel, rfl, by decide +kernel, by decide +kernel⟩
theorem c_want_items (T : Txt K mg) : Cal P w K mg base 2 (He.ga K "want_items") ["width", "items"] (sp_want_items K) := by
  refine T.d_want_items.cal sc_want_items (fun _ _ _ _ _ _ us hl => match us, hl with | [_, _], _ => rfl) (fun vs H Q E h => ?_) (fun cdv A outer s H vs Q E hr h => ?_)
  · obtain ⟨_, _, _, rfl, _⟩ := h; rfl
  · obtain ⟨w, a, ips, rfl, ha, hat, h0, hl, hw, hs, nn, ns, k⟩ := h
    refine ⟨_, (pss_cons (ps_if (PW.pt (pw_or (pt_not (pt_val (pe_cal (c_is_list T) (hr.mono (by decide)) (by rfl) T.g_is_list (pa_cons (pv 1) pa_nil)))) (pw_or1 (pt_cmpR op_eq (pe_callB (kcall_len_seq K) (by rfl) T.b_len bt_len (pa_cons (pv 1) pa_nil)) pe_int (nomark _)))))
        pss_never pss_nil)
      (pss_cons (ps_set (i := 2) sc_want_items.nd rfl (Or.inl rfl) (pe_lst pa_nil))
      (pss_cons (ps_set (i := 3) sc_want_items.nd rfl (Or.inl rfl) (pe_lst pa_nil))
      (pss_one (ps_for PassesOwn.never rfl (kpi_enum K (by rfl) T.b_enumerate (pa_cons (pv 1) pa_nil)) (kpg_tup K (n := 2) rfl (pgs_cons (pg_name (i := 4) sc_want_items.nd rfl (Or.inl rfl)) (pgs_cons (pg_name (i := 5) sc_want_items.nd rfl (Or.inl rfl)) pgs_nil)))
        (pss_cons (ps_if (PW.pt (pw_or (pt_not (pt_val (pe_callB (kcall_isiT K) (by rfl) T.b_isinstance bt_isinstance (pa_cons (pv 5) (pa_cons (pe_tup (pa_cons (pe_glob (v := .ref (He.ga K "Leaf")) rfl T.g_Leaf rfl) (pa_cons (pe_glob (v := .ref (He.ga K "Gatherer")) rfl T.g_Gatherer rfl) pa_nil))) pa_nil))))) (pw_or1 (pt_cmpR op_gt (pe_callB call_len_str (by rfl) T.b_len bt_len (pa_cons (kpe_fld K (pv 5) rfl) pa_nil)) (pv 0) (nomark _)))))
          pss_never pss_nil)
        (pss_cons (ps_if (PW.pt (pw_or (pt_cmpR (kop_in_seq K) (kpe_fld K (pv 5) rfl) (pv 2) (by rfl)) (pw_or1 (pt_cmpR (kop_in_seq K) (kpe_fld K (pv 5) rfl) (pv 3) (by rfl)))))
          pss_never pss_nil)
        (pss_cons (ps_expr (kpe_bm K PySem.F.plainAttrs_list PySem.F.slot_list_append PySem.F.type_list_append mt_append (pv 2) (pa_cons (kpe_fld K (pv 5) rfl) pa_nil)))
        (pss_one (ps_expr (kpe_bm K PySem.F.plainAttrs_list PySem.F.slot_list_append PySem.F.type_list_append mt_append (pv 3) (pa_cons (kpe_fld K (pv 5) rfl) pa_nil)))))))))))), ?_⟩
    refine ⟨_, rfl, a, _, rfl, ha, fun H1 e1 => ⟨_, rfl, iteF ?_⟩⟩
    refine ⟨_, rfl, a, _, rfl, .inl (SqL.of (e1 _ _ ha)), rfl, _, rfl, ?_⟩
    rw [decide_eq_false (by
      intro z
      rw [refs_len] at z
      injection z with z
      have : ips.length ≠ 0 := fun q => h0 (List.length_eq_zero_iff.mp q)
      omega)]
    refine iteF ⟨Nat.zero_le _, fun lN nN => ⟨Nat.zero_le _, fun lS nS => ?_⟩⟩
    have hNS : lN ≠ lS := fun z => by rw [← z, upd_same] at nS; cases nS
    have eN : Same H1 (upd H1 lN (.lst [])) := same_upd nN
    have nS1 : H1 lS = none := eN.free nS
    refine ⟨_, rfl, a, _, rfl, SqL.of (same_upd nS _ _ (eN _ _ (e1 _ _ ha))), ?_⟩
    refine forG ips.length (fun i σ H' => Same H1 H' ∧ H' lN = some (.lst (sL ((ips.take i).map (·.2.nm)))) ∧ H' lS = some (.lst (sL ((ips.take i).map (·.2.st)))) ∧
      ∃ p m, σ = [some (.int w), some (.ref a), some (.ref lN), some (.ref lS), p, m]) ⟨eN.trans (same_upd nS), ?_, upd_same, none, none, rfl⟩ ?_ ?_ ?_ ?_
    · rw [upd_ne hNS]; exact upd_same
    · rintro i σ H' hi ⟨e, _⟩
      have hi' : i < (refs ips).length := by rw [refs_len]; exact hi
      exact ⟨_, _, SqL.of (e _ _ (e1 _ _ ha)), List.getElem?_eq_getElem hi'⟩
    · rintro σ H' ⟨e, _⟩
      exact ⟨_, SqL.of (e _ _ (e1 _ _ ha)), Nat.le_of_eq (refs_len ips)⟩
    · rintro i x σ H2 H3 hi ⟨e, hN, hS, p, m, rfl⟩ ⟨T0, v, rfl, nT, rfl, hx⟩
      obtain ⟨d, hd⟩ : ∃ d, ips[i]? = some d := ⟨_, List.getElem?_eq_getElem hi⟩
      have hx' := hx _ (SqL.of (e _ _ (e1 _ _ ha)))
      rw [refs, List.getElem?_map, hd] at hx'
      cases hx'
      have hdm := List.mem_of_getElem? hd
      have at2 := (hat d hdm).mono (e1.trans e)
      have l1 := hs d hdm
      have tl : ∀ f : Addr × Item → Str, (sL ((ips.take i).map f)).length ≤ 6 := fun f => by rw [sL_len, List.length_map, List.length_take]; omega
      refine ⟨_, _, rfl, .inl (.inl upd_same), rfl, _, _, rfl, _, _, rfl, rfl, ?_⟩
      have at3 := at2.mono (same_upd (o := .tup [.int (i : Nat), .ref d.1]) nT)
      refine ⟨_, rfl, le_line (by show (2 : Nat) ≤ 100000; decide), fun q nq => ?_⟩
      refine ⟨_, _, _, _, _, _, rfl, upd_same, .cons (.own _) (.cons (.own _) .nil), ty_item T (at3.mono (same_upd nq)), kit_LG T _, _, rfl, iteF ?_⟩
      have at4 := at3.mono (same_upd (o := .tup [.ref (He.ga K "Leaf"), .ref (He.ga K "Gatherer")]) nq)
      refine ⟨_, rfl, rd_stretch T at4 ⟨_, rfl, le_line (by omega), _, rfl, _, _, rfl, rfl, _, rfl, ?_⟩⟩
      rw [decide_eq_false (by omega)]
      refine iteF ⟨_, rfl, rd_name T at4 ⟨_, rfl, _, _, rfl, .inl (SqL.of (same_upd nq _ _ (same_upd nT _ _ hN))), rfl, flat_str _, _, rfl, ?_⟩⟩
      rw [if_neg (by decide), inV_str, not_in_take nn hd]
      refine iteF ⟨_, rfl, rd_stretch T at4 ⟨_, rfl, _, _, rfl, .inl (SqL.of (same_upd nq _ _ (same_upd nT _ _ hS))), rfl, flat_str _, _, rfl, ?_⟩⟩
      rw [if_neg (by decide), inV_str, not_in_take ns hd]
      have hN4 := same_upd (o := .tup [.ref (He.ga K "Leaf"), .ref (He.ga K "Gatherer")]) nq _ _ (same_upd (o := .tup [.int (i : Nat), .ref d.1]) nT _ _ hN)
      have hS4 := same_upd (o := .tup [.ref (He.ga K "Leaf"), .ref (He.ga K "Gatherer")]) nq _ _ (same_upd (o := .tup [.int (i : Nat), .ref d.1]) nT _ _ hS)
      have e4 := (e.trans (same_upd (o := .tup [.int (i : Nat), .ref d.1]) nT)).trans (same_upd (o := .tup [.ref (He.ga K "Leaf"), .ref (He.ga K "Gatherer")]) nq)
      have e5 : Same H1 (upd _ lN (.lst (sL ((ips.take i).map (·.2.nm)) ++ [V.str d.2.nm]))) := same_mut e4 nN
      have at5 := (hat d hdm).mono (e1.trans e5)
      refine iteF ⟨_, rfl, .inl ⟨rfl, _, SqL.of hN4⟩, _, rfl, rd_name T at4 ⟨lN, _, _, rfl, rfl, hN4, lt_line (by have := tl (·.2.nm); omega), ?_⟩⟩
      refine ⟨_, rfl, .inl ⟨rfl, _, SqL.of (by rw [upd_ne hNS.symm]; exact hS4)⟩, _, rfl, rd_stretch T at5 ⟨lS, _, _, rfl, rfl, by rw [upd_ne hNS.symm]; exact hS4, lt_line (by have := tl (·.2.st); omega), ?_⟩⟩
      refine ⟨same_mut e5 nS1, ?_, ?_, some (.int (i : Nat)), some (.ref d.1), rfl⟩
      · rw [upd_ne hNS, upd_same, map_take_snoc hd]; simp [sL]
      · rw [upd_same, map_take_snoc hd]; simp [sL]
    · rintro σ H' ⟨e, _⟩
      exact k H' (e1.trans e)

def sp_is_right_member (K : PySem.W.Frag) : Sp := fun vs H Q _ => ∃ (p q : Addr) (g x : Item), vs = [.ref p, .ref q] ∧ ItemAt K H p g ∧ ItemAt K H q x ∧ g.st.length ≤ 100 ∧ x.st.length ≤ 100 ∧ right g x ∧ ∀ H', Same H H' → Q (.bl true) H'
/-! is_right_member: 0:gatherer 1:member -/
abbrev n_is_right_member : List Str := ["gatherer", "member"]
theorem sc_is_right_member : FnScope n_is_right_member ["gatherer", "member"] (defScope s_is_right_member) := ⟨rfl, rfl, rfl, by decide +kernel, rfl, by decide +kernel, by decide +kernel⟩
theorem c_is_right_member (T : Txt K mg) : Cal P w K mg base 1 (He.ga K "is_right_member") ["gatherer", "member"] (sp_is_right_member K) := by
  refine T.d_is_right_member.cal sc_is_right_member (fun _ _ _ _ _ _ us hl => match us, hl with | [_, _], _ => rfl) (fun vs H Q E h => ?_) (fun cdv A outer s H vs Q E hr h => ?_)
  · obtain ⟨_, _, _, _, rfl, _⟩ := h; rfl
  · obtain ⟨p, q, g, x, rfl, hg, hx, lg, lx, ⟨r1, r2, r3⟩, k⟩ := h
    have hu := hu_of hr
    refine ⟨_, (pss_cons (ps_if (PW.pt (pw_or (pt_cmpR op_le (pe_callB call_len_str (by rfl) T.b_len bt_len (pa_cons (kpe_fld K (pv 1) rfl) pa_nil)) (pe_callB call_len_str (by rfl) T.b_len bt_len (pa_cons (kpe_fld K (pv 0) rfl) pa_nil)) (nomark _)) (pw_or1 (pt_not (pt_val (pe_sw (kpe_fld K (pv 1) rfl) (kpe_fld K (pv 0) rfl)))))))
        (pss_one (ps_ret pe_bl)) pss_nil)
      (pss_one (ps_ret (pe_or (pe_cmpR op_eq (kpe_fld K (pv 0) rfl) (kpe_fld K (pv 1) rfl) (nomark _)) (pe_one (pe_cmp (pc_din hu (kpe_fld K (pv 0) rfl) (kpe_fld K (pv 1) rfl)))))))), ?_⟩
    refine ⟨_, rfl, rd_stretch T hx ⟨_, rfl, le_line (by omega), _, rfl, rd_stretch T hg ⟨_, rfl, le_line (by omega), _, _, rfl, rfl, _, rfl, ?_⟩⟩⟩
    rw [decide_eq_false (by omega)]
    refine iteF ⟨_, rfl, rd_stretch T hx ⟨⟨_, rfl⟩, _, rfl, rd_stretch T hg ⟨_, _, rfl, rfl, _, rfl, ?_⟩⟩⟩
    rw [sw_dec, decide_eq_true r2]
    refine iteF ⟨_, rfl, rd_keeper T hg ⟨_, rfl, rd_keeper T hx ⟨rfl, _, rfl, ?_⟩⟩⟩
    by_cases e : g.kp = x.kp
    · rw [decide_eq_true (by rw [e])]
      exact iteT (k H (Same.refl H))
    · rw [decide_eq_false (by intro z; injection z with z; exact e z)]
      refine iteF ⟨_, rfl, rd_keeper T hg ⟨_, rfl, rd_way T hx fun wA wy pw hw => ⟨wA, _, rfl, .inl ⟨_, Sum.inr g.kp, .inl hw, rfl, rfl⟩, ?_⟩⟩⟩
      have hm : g.kp ∈ keys wy := (pw.map _).mem_iff.mpr (r3.resolve_right e)
      obtain ⟨y, ey, _⟩ := lookup_mem hm
      rw [valV_dk, ey]
      exact k H (Same.refl H)

def okv (ips : List (Addr × Item)) : List (Key × V) := ips.map fun q => (Sum.inr q.2.nm, V.ref q.1)
theorem okv_len (ips : List (Addr × Item)) : (okv ips).length = ips.length := List.length_map ..
theorem valV_okv {ips : List (Addr × Item)} (nd : (ips.map (·.2.nm)).Nodup) {q : Addr × Item} (hq : q ∈ ips) : valV (okv ips) (Sum.inr q.2.nm : Key) = some (V.ref q.1) := by
  induction ips with
  | nil => simp at hq
  | cons p r ih =>
    rw [List.map_cons, List.nodup_cons] at nd
    unfold valV okv at ih ⊢
    rw [List.map_cons, List.find?_cons]
    by_cases e : p.2.nm = q.2.nm
    · have : q = p := by
        rcases List.mem_cons.mp hq with z | z
        · exact z
        · exact absurd (by rw [e]; exact List.mem_map.mpr ⟨q, z, rfl⟩) nd.1
      subst this
      simp
    · have e2 : decide ((Sum.inr p.2.nm : Key) = Sum.inr q.2.nm) = false := decide_eq_false fun z => e (Sum.inr.inj z)
      rw [e2]
      refine ih nd.2 ?_
      rcases List.mem_cons.mp hq with z | z
      · rw [z] at e; exact absurd rfl e
      · exact z
def gathOf (ips : List (Addr × Item)) : List (Addr × Item) := ips.filter fun q => decide (q.2.k ≠ 0)
theorem fm_take {α β : Type} {l : List α} {f : α → List β} {i : Nat} {d : α} (hd : l[i]? = some d) : (l.take (i + 1)).flatMap f = (l.take i).flatMap f ++ f d := by
  rw [List.take_add_one, hd]; simp
theorem fm_sub {α β : Type} (l : List α) (f : α → List β) (n : Nat) : ((l.take n).flatMap f).Sublist (l.flatMap f) := by
  conv => rhs; rw [← List.take_append_drop n l, List.flatMap_append]
  exact List.sublist_append_left _ _
theorem fm_fresh {α : Type} {l : List α} {f : α → List Str} (nd : (l.flatMap f).Nodup) {i j : Nat} {d : α} {m : Str} (hd : l[i]? = some d) (hm : (f d)[j]? = some m) : ((l.take i).flatMap f ++ (f d).take j).contains m = false := by
  rw [Bool.eq_false_iff]
  intro z
  have z2 := List.contains_iff_mem.mp z
  have n2 := nd.sublist (fm_sub l f (i + 1))
  rw [fm_take hd, List.nodup_append] at n2
  rcases List.mem_append.mp z2 with y | y
  · exact n2.2.2 m y m (List.mem_of_getElem? hm) rfl
  · obtain ⟨u, hu, eu⟩ := List.mem_iff_getElem.mp y
    rw [List.length_take] at hu
    rw [List.getElem_take] at eu
    have := nodup_ix n2.2.1 (i := u) (j := j) (by rw [List.getElem?_eq_getElem (by omega), eu]) hm
    omega
theorem rd_membersS {K : PySem.W.Frag} {mg : Str → Option Value} {G H : Hp} {p : Addr} {it : Item} {R : V → Prop} (T : Txt K mg) (h : ItemAt K G p it) (e : Same G H) (hk : it.k ≠ 0) (q : ∀ mA, G mA = some (.lst (sL it.mb)) → R (.ref mA)) :
    ∃ a C dx fs v, V.ref p = .ref a ∧ H a = some (.ins C dx fs) ∧ Cls K C ∧ NoAttr K C "own_members" ∧ fs.lookup ("own_members" : Str) = some v ∧ R v := by
  obtain ⟨kle, dx, wA, pA, mA, wy, h1, h2, h3, h4, h5⟩ := h
  exact ⟨p, _, dx, _, _, rfl, e _ _ h1, (clsC T).ins.cl, (clsC T).n_own_members, fl_members hk, q mA (h5 hk)⟩
theorem fm_len {α β : Type} {f : α → List β} {c : Nat} : ∀ {l : List α}, (∀ d ∈ l, (f d).length ≤ c) → (l.flatMap f).length ≤ l.length * c
  | [], _ => by simp
  | d :: l, h => by
    rw [List.flatMap_cons, List.length_append, List.length_cons, Nat.succ_mul]
    have h1 := h d (by simp)
    have h2 := fm_len (l := l) fun x hx => h x (List.mem_cons_of_mem _ hx)
    omega
def sp_want_gathered (K : PySem.W.Frag) : Sp := fun vs H Q _ => ∃ (a : Addr) (ips : List (Addr × Item)), vs = [.ref a] ∧ H a = some (.dK (okv ips)) ∧ Ats K H ips ∧ ips.length ≤ 6 ∧ (ips.map (·.2.nm)).Nodup ∧ (∀ q ∈ ips, q.2.st.length ≤ 100) ∧
  (∀ g ∈ ips, g.2.k ≠ 0 → g.2.mb.length ≤ 10 ∧ ∀ m ∈ g.2.mb, ∃ x ∈ ips, x.2.nm = m ∧ right g.2 x.2) ∧ ((gathOf ips).flatMap (·.2.mb)).Nodup ∧ ∀ H', Same H H' → Q .non H'
/-! want_gathered: 0:items 1:gatherers 2:gatherer 3:taken 4:name 5:item -/
abbrev n_want_gathered : List Str := ["items", "gatherers", "gatherer", "taken", "name", "item"]
theorem sc_want_gathered : FnScope n_want_gathered ["items"] (defScope s_want_gathered) := ⟨rfl, rfl, rfl, by decide +kernel, rfl, by decide +kernel, by decide +kernel⟩
theorem c_want_gathered (T : Txt K mg) : Cal P w K mg base 2 (He.ga K "want_gathered") ["items"] (sp_want_gathered K) := by
  refine T.d_want_gathered.cal sc_want_gathered (fun _ _ _ _ _ _ us hl => match us, hl with | [_], _ => rfl) (fun vs H Q E h => ?_) (fun cdv A outer s H vs Q E hr h => ?_)
  · obtain ⟨_, _, rfl, _⟩ := h; rfl
  · obtain ⟨a, ips, rfl, ha, hat, hl, nn, hs, hm, nd, k⟩ := h
    have hu := hu_of hr
    refine ⟨_, (pss_cons (ps_lock (ps_setLc (i := 1) (own := [("item", 5)]) (g := gName 5) rfl sc_want_gathered.nd rfl rfl (sw_true rfl rfl rfl (by decide +kernel)) (pi_values (pv 0)) (blkOk_by (N := n_want_gathered) (sc := defScope s_want_gathered) (by decide +kernel)) (fun _ _ _ _ _ => (pg_name (i := 5) sc_want_gathered.nd rfl (Or.inl rfl))) (fun _ _ _ _ _ => (pts_one (pt_val (pe_callB (kcall_isi K) (by rfl) T.b_isinstance bt_isinstance (pa_cons (pv 5) (pa_cons (pe_glob (v := .ref (He.ga K "Gatherer")) rfl T.g_Gatherer rfl) pa_nil)))))) (fun _ _ _ _ _ => (pv 5))))
      (pss_cons (ps_for PassesOwn.never rfl (kpi_list K (pv 1)) (pg_name (i := 2) sc_want_gathered.nd rfl (Or.inl rfl))
        (pss_one (ps_for PassesOwn.never rfl (kpi_list K (kpe_fld K (pv 2) rfl)) (pg_name (i := 4) sc_want_gathered.nd rfl (Or.inl rfl))
          (pss_one (ps_if (pt_cmp (pc_dnotin hu (pv 4) (pv 0)))
            pss_never pss_nil)))))
      (pss_cons (ps_set (i := 3) sc_want_gathered.nd rfl (Or.inl rfl) (pe_lst pa_nil))
      (pss_one (ps_for PassesOwn.never rfl (kpi_list K (pv 1)) (pg_name (i := 2) sc_want_gathered.nd rfl (Or.inl rfl))
        (pss_one (ps_for PassesOwn.never rfl (kpi_list K (kpe_fld K (pv 2) rfl)) (pg_name (i := 4) sc_want_gathered.nd rfl (Or.inl rfl))
          (pss_cons (ps_if (PW.pt (pw_or (pt_cmpR (kop_in_seq K) (pv 4) (pv 3) (by rfl)) (pw_or1 (pt_not (pt_val (pe_cal (c_is_right_member T) (hr.mono (by decide)) (by rfl) T.g_is_right_member (pa_cons (pv 2) (pa_cons (pe_dget hu (pv 0) (pv 4) (fun _ _ => rfl)) pa_nil))))))))
            pss_never pss_nil)
          (pss_one (ps_expr (kpe_bm K PySem.F.plainAttrs_list PySem.F.slot_list_append PySem.F.type_list_append mt_append (pv 3) (pa_cons (pv 4) pa_nil)))))))))))), ?_⟩
    refine ⟨a, .dK (okv ips), ha, trivial, fun od => ?_⟩
    refine ⟨_, rfl, a, od, _, rfl, upd_same, ?_⟩
    have gl : (gathOf ips).length ≤ 6 := Nat.le_trans (List.length_filter_le _ _) hl
    refine lcG ips (fun q => decide (q.2.k ≠ 0)) (fun q v _ => v = .ref q.1) (by omega) (fun _ _ _ _ _ h => h) ?_ ?_ ?_ ?_
    · intro i H' hi e; exact ⟨e _ _ upd_same, by rw [okv_len]; exact hi⟩
    · intro H' e; exact ⟨e _ _ upd_same, by rw [okv_len]; exact Nat.le_refl _⟩
    · intro i d D x H1 H2 hd hD hD1 e y Ry Rn hy hn
      obtain ⟨rfl, kk, hx⟩ := y
      rw [okv, List.getElem?_map, hd] at hx
      cases hx
      have i1 := hat d (List.mem_of_getElem? hd)
      have t1 : TyX K H2 (.ref d.1) (.ref (clsOf K d.2.k)) := by
        obtain ⟨kle, dx, wA, pA, mA, wy, h1, h2, h3, h4, h5⟩ := i1
        have c := (clsC T (k := d.2.k)).ins
        have hda : d.1 ≠ a := fun z => by rw [z, ha] at h1; cases h1
        exact .base (.ins (off_le _ _ (e _ _ (by rw [upd_ne hda]; exact h1))) c.cl c.ha c.hn c.htk c.hm)
      refine ⟨rfl, _, rfl, _, _, _, _, _, rfl, .own _, t1, kit_Gatherer T _, _, rfl, ?_⟩
      by_cases hk : d.2.k = 0
      · rw [decide_eq_false (fun z => z hk)]
        exact iteF (hn (decide_eq_false fun z => z hk) _ (Same.refl _))
      · rw [decide_eq_true hk]
        exact iteT ⟨_, rfl, hy (decide_eq_true hk) _ _ (Same.refl _) rfl⟩
    intro lG H1 ys nG e hG hp
    refine ⟨e.trans off_le _ _ upd_same, ?_⟩
    have eG : ys = refs (gathOf ips) := paired_eq (r := fun q : Addr × Item => V.ref q.1) hp
    subst eG
    have hGa : lG ≠ a := fun z => by rw [z, upd_same] at nG; cases nG
    have s1 : Same H (upd H1 a (.dK (okv ips))) := unlock ha (e.trans off_le)
    have g1 : (upd H1 a (.dK (okv ips))) lG = some (.lst (refs (gathOf ips))) := by rw [upd_ne hGa]; exact hG
    generalize upd H1 a (.dK (okv ips)) = H2 at s1 g1 ⊢
    have gm : ∀ g ∈ gathOf ips, g ∈ ips ∧ g.2.k ≠ 0 := fun g hg => by
      have := List.mem_filter.mp hg
      exact ⟨this.1, of_decide_eq_true this.2⟩
    -- the members are there
    refine ⟨_, rfl, lG, rfl, ⟨_, SqL.of g1⟩, ?_⟩
    refine forG (gathOf ips).length (fun i σ H' => Same H2 H' ∧ ∃ g t n u, σ = [some (.ref a), some (.ref lG), g, t, n, u]) ⟨Same.refl _, _, _, _, _, rfl⟩ ?_ ?_ ?_ ?_
    · rintro i σ H' hi ⟨e, _⟩; exact itl_go (SqL.of (e _ _ g1)) (by rw [refs_len]; exact hi)
    · rintro σ H' ⟨e, _⟩; exact itl_stop (SqL.of (e _ _ g1)) (refs_len _)
    · rintro i x σ H3 H4 hi ⟨e, g, t, n, u, rfl⟩ ⟨rfl, hx⟩
      obtain ⟨d, hd⟩ : ∃ d, (gathOf ips)[i]? = some d := ⟨_, List.getElem?_eq_getElem hi⟩
      have hx' := hx _ (SqL.of (e _ _ g1))
      rw [refs, List.getElem?_map, hd] at hx'
      cases hx'
      obtain ⟨dm, dk0⟩ := gm d (List.mem_of_getElem? hd)
      obtain ⟨ml, mm⟩ := hm d dm dk0
      refine ⟨_, rfl, rd_members T ((hat d dm).mono (s1.trans e)) dk0 fun mA hmA => ⟨mA, rfl, ⟨_, SqL.of hmA⟩, ?_⟩⟩
      refine forG d.2.mb.length (fun j σ H' => Same H4 H' ∧ ∃ t n u, σ = [some (.ref a), some (.ref lG), some (.ref d.1), t, n, u]) ⟨Same.refl _, _, _, _, rfl⟩ ?_ ?_ ?_ ?_
      · rintro j σ H' hj ⟨e, _⟩; exact itl_go (SqL.of (e _ _ hmA)) (by rw [sL_len]; exact hj)
      · rintro σ H' ⟨e, _⟩; exact itl_stop (SqL.of (e _ _ hmA)) (sL_len _)
      · rintro j x σ H5 H6 hj ⟨e', t, n, u, rfl⟩ ⟨rfl, hx⟩
        obtain ⟨m, hmj⟩ : ∃ m, d.2.mb[j]? = some m := ⟨_, List.getElem?_eq_getElem hj⟩
        have hx' := hx _ (SqL.of (e' _ _ hmA))
        rw [sL, List.getElem?_map, hmj] at hx'
        cases hx'
        obtain ⟨z, hz, ez, _⟩ := mm m (List.mem_of_getElem? hmj)
        refine ⟨_, rfl, _, rfl, a, _, rfl, .inl ⟨_, Sum.inr m, .inl (e' _ _ (e _ _ (s1 _ _ ha))), rfl, rfl⟩, _, rfl, ?_⟩
        rw [← ez, valV_okv nn hz]
        exact iteF ⟨e', _, _, _, rfl⟩
      · rintro σ H' ⟨e', t, n, u, rfl⟩
        exact ⟨e.trans e', _, _, _, _, rfl⟩
    rintro σ H3 ⟨e3, g, t, n, u, rfl⟩
    -- they are right
    refine ⟨Nat.zero_le _, fun lT nT => ?_⟩
    refine ⟨_, rfl, lG, rfl, ⟨_, SqL.of (same_upd nT _ _ (e3 _ _ g1))⟩, ?_⟩
    refine forG (gathOf ips).length (fun i σ H' => Same H3 H' ∧ H' lT = some (.lst (sL (((gathOf ips).take i).flatMap (·.2.mb)))) ∧ ∃ g n u, σ = [some (.ref a), some (.ref lG), g, some (.ref lT), n, u]) ⟨same_upd nT, upd_same, _, _, _, rfl⟩ ?_ ?_ ?_ ?_
    · rintro i σ H' hi ⟨e, _⟩; exact itl_go (SqL.of (e _ _ (e3 _ _ g1))) (by rw [refs_len]; exact hi)
    · rintro σ H' ⟨e, _⟩; exact itl_stop (SqL.of (e _ _ (e3 _ _ g1))) (refs_len _)
    · rintro i x σ H4 H5 hi ⟨e, hT, g, n, u, rfl⟩ ⟨rfl, hx⟩
      obtain ⟨d, hd⟩ : ∃ d, (gathOf ips)[i]? = some d := ⟨_, List.getElem?_eq_getElem hi⟩
      have hx' := hx _ (SqL.of (e _ _ (e3 _ _ g1)))
      rw [refs, List.getElem?_map, hd] at hx'
      cases hx'
      obtain ⟨dm, dk0⟩ := gm d (List.mem_of_getElem? hd)
      obtain ⟨ml, mm⟩ := hm d dm dk0
      have s5 : Same H H5 := (s1.trans e3).trans e
      refine ⟨_, rfl, rd_membersS T (hat d dm) s5 dk0 fun mA hmA0 => ⟨mA, rfl, ⟨_, SqL.of (s5 _ _ hmA0)⟩, ?_⟩⟩
      have hmA := s5 _ _ hmA0
      have hTm : lT ≠ mA := fun z => by
        have := (s1.trans e3) _ _ hmA0
        rw [← z, nT] at this; cases this
      refine forG d.2.mb.length (fun j σ H' => Same H3 H' ∧ But lT H5 H' ∧ H' lT = some (.lst (sL (((gathOf ips).take i).flatMap (·.2.mb) ++ d.2.mb.take j))) ∧ ∃ n u, σ = [some (.ref a), some (.ref lG), some (.ref d.1), some (.ref lT), n, u]) ⟨e, but_refl, by simpa using hT, _, _, rfl⟩ ?_ ?_ ?_ ?_
      · rintro j σ H' hj ⟨_, e, _⟩; exact itl_go (SqL.of (e _ _ hTm.symm hmA)) (by rw [sL_len]; exact hj)
      · rintro σ H' ⟨_, e, _⟩; exact itl_stop (SqL.of (e _ _ hTm.symm hmA)) (sL_len _)
      · rintro j x σ H6 H7 hj ⟨e', eb, hT', n, u, rfl⟩ ⟨rfl, hx⟩
        obtain ⟨m, hmj⟩ : ∃ m, d.2.mb[j]? = some m := ⟨_, List.getElem?_eq_getElem hj⟩
        have hx' := hx _ (SqL.of (eb _ _ hTm.symm hmA))
        rw [sL, List.getElem?_map, hmj] at hx'
        cases hx'
        obtain ⟨z, hz, ez, rz⟩ := mm m (List.mem_of_getElem? hmj)
        refine ⟨_, rfl, _, rfl, _, _, rfl, .inl (SqL.of hT'), rfl, flat_str _, _, rfl, ?_⟩
        rw [if_neg (by decide), inV_str, fm_fresh nd hd hmj]
        have s7 : Same H H7 := (s1.trans e3).trans e'
        refine iteF ⟨_, rfl, _, rfl, _, rfl, a, V.ref z.1, rfl, .inl ⟨_, Sum.inr m, .inl (s7 _ _ ha), rfl, ?_⟩, ?_⟩
        · rw [← ez, valV_okv nn hz]
        refine ⟨_, _, _, _, rfl, (hat d dm).mono s7, (hat z hz).mono s7, hs d dm, hs z hz, rz, fun H8 e8 => ⟨_, rfl, iteF ?_⟩⟩
        refine ⟨_, rfl, .inl ⟨rfl, _, SqL.of (e8 _ _ hT')⟩, _, rfl, lT, _, _, rfl, rfl, e8 _ _ hT', lt_line ?_, ?_⟩
        · have l1 : (((gathOf ips).take i).flatMap (·.2.mb)).length ≤ ((gathOf ips).take i).length * 10 := fm_len fun g hg => (hm g (gm g (List.mem_of_mem_take hg)).1 (gm g (List.mem_of_mem_take hg)).2).1
          rw [List.length_take] at l1
          rw [sL_len, List.length_append, List.length_take]
          omega
        · refine ⟨same_mut (e'.trans e8) nT, (eb.same e8).set, ?_, _, _, rfl⟩
          rw [upd_same, List.take_add_one, hmj]
          simp [sL]
      · rintro σ H' ⟨e', eb, hT', n, u, rfl⟩
        refine ⟨e', ?_, _, _, _, rfl⟩
        rw [hT', List.take_length, fm_take hd]
    · rintro σ H' ⟨e, _⟩
      exact k H' ((s1.trans e3).trans e)
end
end Cw

/-! CwG -/
set_option Elab.async false
set_option linter.all false
set_option maxRecDepth 100000
set_option maxHeartbeats 4000000
namespace Cw
open PySem PySem.Spec PyProof.Rows L2
section
variable {P : Program} {w : World} {K : PySem.W.Frag} {mg : Str → Option Value} {base : Heap}
/-! hops, few, a net made -/
def trueD (fs : List Str) : List (Key × V) := fs.map fun h => (Sum.inr h, V.bl true)
theorem trueD_len (fs : List Str) : (trueD fs).length = fs.length := List.length_map ..
theorem valV_true (fs : List Str) (h : Str) : valV (trueD fs) (Sum.inr h : Key) = if h ∈ fs then some (.bl true) else none := by
  induction fs with
  | nil => rfl
  | cons f r ih =>
    unfold valV trueD at ih ⊢
    rw [List.map_cons, List.find?_cons]
    by_cases e : f = h
    · subst e; simp
    · have e2 : decide ((Sum.inr f : Key) = Sum.inr h) = false := decide_eq_false fun z => e (Sum.inr.inj z)
      rw [e2]
      have : (h ∈ f :: r) ↔ h ∈ r := by simp [Ne.symm e]
      simp only [this]
      exact ih
def addN (fs : List Str) (h : Str) : List Str := if h ∈ fs then fs else fs ++ [h]
theorem addN_mem {fs : List Str} {h x : Str} : x ∈ addN fs h ↔ x ∈ fs ∨ x = h := by
  unfold addN
  split
  · rename_i m
    constructor
    · exact .inl
    · rintro (z | z)
      · exact z
      · rw [z]; exact m
  · simp
theorem addN_nodup {fs : List Str} {h : Str} (n : fs.Nodup) : (addN fs h).Nodup := by
  unfold addN
  split
  · exact n
  · rename_i m
    rw [List.nodup_append]
    exact ⟨n, by simp, fun a ha b hb => by rw [List.mem_singleton.mp hb]; exact fun z => m (z ▸ ha)⟩
theorem addN_len (fs : List Str) (h : Str) : (addN fs h).length ≤ fs.length + 1 := by
  unfold addN; split <;> simp
theorem put_true (fs : List Str) (h : Str) : putK (trueD fs) (Sum.inr h : Key) (.bl true) = trueD (addN fs h) := by
  unfold addN
  by_cases m : h ∈ fs
  · rw [if_pos m]
    have : ((trueD fs).any fun kv => decide (kv.1 = (Sum.inr h : Key))) = true := List.any_eq_true.mpr ⟨(Sum.inr h, .bl true), List.mem_map.mpr ⟨h, m, rfl⟩, by simp⟩
    unfold putK
    rw [if_pos this]
    conv => rhs; rw [← List.map_id (trueD fs)]
    refine List.map_congr_left fun kv hk => ?_
    obtain ⟨g, hg, rfl⟩ := List.mem_map.mp hk
    simp
  · rw [if_neg m, putK_new _ (by rw [valV_true, if_neg m])]
    simp [trueD]
def sp_hops_of (K : PySem.W.Frag) : Sp := fun vs H Q _ => ∃ (a : Addr) (ips : List (Addr × Item)), vs = [.ref a] ∧ H a = some (.lst (refs ips)) ∧ Ats K H ips ∧ ips.length ≤ 6 ∧ (∀ q ∈ ips, q.2.wy.length ≤ 5) ∧
  ∀ H' q ys, Same H H' → H q = none → ys.Nodup → (∀ h, h ∈ ys ↔ ∃ p ∈ ips, sees p.2 h) → H' q = some (.lst (sL ys)) → Q (.ref q) H'
/-! hops_of: 0:items 1:found 2:item 3:hop -/
abbrev n_hops_of : List Str := ["items", "found", "item", "hop"]
theorem sc_hops_of : FnScope n_hops_of ["items"] (defScope s_hops_of) := ⟨rfl, rfl, rfl, by decide +kernel, rfl, by decide +kernel, by decide +kernel⟩
theorem c_hops_of (T : Txt K mg) : Cal P w K mg base 1 (He.ga K "hops_of") ["items"] (sp_hops_of K) := by
  refine T.d_hops_of.cal sc_hops_of (fun _ _ _ _ _ _ us hl => match us, hl with | [_], _ => rfl) (fun vs H Q E h => ?_) (fun cdv A outer s H vs Q E hr h => ?_)
  · obtain ⟨_, _, rfl, _⟩ := h; rfl
  · obtain ⟨a, ips, rfl, ha, hat, hl, hw, k⟩ := h
    have hu := hu_of hr
    refine ⟨_, (pss_cons (ps_set (i := 1) sc_hops_of.nd rfl (Or.inl rfl) pe_dnewK)
      (pss_cons (ps_for PassesOwn.never rfl (kpi_list K (pv 0)) (pg_name (i := 2) sc_hops_of.nd rfl (Or.inl rfl))
        (pss_one (ps_for PassesOwn.never rfl (kpi_list K (pe_op op_cat (pe_callTy (call_listD rfl) (by rfl) T.b_list bt_list (pa_cons (kpe_fld K (pv 2) rfl) pa_nil)) (pe_lst (pa_cons (kpe_fld K (pv 2) rfl) pa_nil)))) (pg_name (i := 3) sc_hops_of.nd rfl (Or.inl rfl))
          (pss_one (ps_dput hu (pv 1) (pv 3) pe_bl rfl)))))
      (pss_one (ps_ret (pe_callB (call_sortedD rfl) (by rfl) T.b_sorted bt_sorted (pa_cons (pv 1) pa_nil)))))), ?_⟩
    intro D nD
    have eD : Same H (upd H D (.dK [])) := same_upd nD
    refine ⟨_, rfl, a, rfl, ⟨_, SqL.of (eD _ _ ha)⟩, ?_⟩
    refine forG ips.length (fun i σ H' => Same H H' ∧ (∃ fs, H' D = some (.dK (trueD fs)) ∧ fs.Nodup ∧ fs.length ≤ 6 * i ∧ ∀ h, h ∈ fs ↔ ∃ p ∈ ips.take i, sees p.2 h) ∧ ∃ u v, σ = [some (.ref a), some (.ref D), u, v]) ⟨eD, ⟨[], upd_same, List.nodup_nil, by simp, by simp⟩, _, _, rfl⟩ ?_ ?_ ?_ ?_
    · rintro i σ H' hi ⟨e, _⟩; exact itl_go (SqL.of (e _ _ ha)) (by rw [refs_len]; exact hi)
    · rintro σ H' ⟨e, _⟩; exact itl_stop (SqL.of (e _ _ ha)) (refs_len _)
    · rintro i x σ H1 H2 hi ⟨e, ⟨fs, hD, nf, lf, mf⟩, u, v, rfl⟩ ⟨rfl, hx⟩
      obtain ⟨d, hd⟩ : ∃ d, ips[i]? = some d := ⟨_, List.getElem?_eq_getElem hi⟩
      have hx' := hx _ (SqL.of (e _ _ ha))
      rw [refs, List.getElem?_map, hd] at hx'
      cases hx'
      have dm := List.mem_of_getElem? hd
      have hi2 := (hat d dm).mono e
      refine ⟨_, rfl, rd_way T hi2 fun wA wy pw hwA => ⟨wA, _, rfl, .inl hwA, fun q nq => ?_⟩⟩
      have e1 : (dk wy).map (fun kv => kV kv.1) = sL (keys wy) := by simp [dk, sL, keys, kV]
      have wl : wy.length ≤ 5 := by rw [pw.length_eq]; exact hw d dm
      have kl : (sL (keys wy)).length ≤ 5 := by rw [sL_len, keys, List.length_map]; exact wl
      rw [e1]
      refine ⟨_, rfl, rd_keeper T (hi2.mono (same_upd nq)) ⟨le_line (by show (1 : Nat) ≤ 100000; decide), fun r nr => ?_⟩⟩
      refine ⟨q, r, _, _, rfl, rfl, same_upd nr _ _ upd_same, upd_same, le_line (by show _ + 1 ≤ 100000; omega), fun t nt => ?_⟩
      have e2 : sL (keys wy) ++ [V.str d.2.kp] = sL (keys wy ++ [d.2.kp]) := by simp [sL]
      rw [e2]
      have s2 := ((same_upd (o := .lst (sL (keys wy))) nq).trans (same_upd (o := .lst [V.str d.2.kp]) nr)).trans (same_upd (o := .lst (sL (keys wy ++ [d.2.kp]))) nt)
      have ht : upd (upd (upd H2 q (.lst (sL (keys wy)))) r (.lst [V.str d.2.kp])) t (.lst (sL (keys wy ++ [d.2.kp]))) t = some (.lst (sL (keys wy ++ [d.2.kp]))) := upd_same
      generalize upd (upd (upd H2 q (.lst (sL (keys wy)))) r (.lst [V.str d.2.kp])) t (.lst (sL (keys wy ++ [d.2.kp]))) = H3 at s2 ht ⊢
      have hDt : D ≠ t := fun z => by
        have := s2 _ _ hD
        rw [z, ht] at this; cases this
      refine ⟨t, rfl, ⟨_, SqL.of ht⟩, ?_⟩
      have ll : (keys wy ++ [d.2.kp]).length ≤ 6 := by rw [sL_len] at kl; simp; omega
      refine forG (keys wy ++ [d.2.kp]).length (fun j σ H' => Same H H' ∧ But D H3 H' ∧ (∃ gs, H' D = some (.dK (trueD gs)) ∧ gs.Nodup ∧ gs.length ≤ 6 * i + j ∧ ∀ h, h ∈ gs ↔ h ∈ fs ∨ h ∈ (keys wy ++ [d.2.kp]).take j) ∧ ∃ v, σ = [some (.ref a), some (.ref D), some (.ref d.1), v])
        ⟨e.trans s2, but_refl, ⟨fs, s2 _ _ hD, nf, by omega, by simp⟩, _, rfl⟩ ?_ ?_ ?_ ?_
      · rintro j σ H' hj ⟨_, e, _⟩; exact itl_go (SqL.of (e _ _ hDt.symm ht)) (by rw [sL_len]; exact hj)
      · rintro σ H' ⟨_, e, _⟩; exact itl_stop (SqL.of (e _ _ hDt.symm ht)) (sL_len _)
      · rintro j x σ H4 H5 hj ⟨e4, eb, ⟨gs, hg, ng, lg, mg⟩, v, rfl⟩ ⟨rfl, hx⟩
        obtain ⟨h, hh⟩ : ∃ h, (keys wy ++ [d.2.kp])[j]? = some h := ⟨_, List.getElem?_eq_getElem hj⟩
        have hx' := hx _ (SqL.of (eb _ _ hDt.symm ht))
        rw [sL, List.getElem?_map, hh] at hx'
        cases hx'
        refine ⟨_, rfl, _, rfl, D, _, rfl, .inl ⟨_, Sum.inr h, hg, rfl, ?_, rfl⟩, ?_⟩
        · rw [trueD_len]; exact lt_line (by omega)
        · rw [put_true]
          refine ⟨same_mut e4 nD, eb.set, ⟨_, upd_same, addN_nodup ng, by have := addN_len gs h; omega, fun x => ?_⟩, _, rfl⟩
          rw [addN_mem, mg, List.take_add_one, hh]
          simp [or_assoc]
      · rintro σ H' ⟨e4, eb, ⟨gs, hg, ng, lg, mg⟩, v, rfl⟩
        refine ⟨e4, ⟨gs, hg, ng, by omega, fun x => ?_⟩, _, _, rfl⟩
        rw [mg, mf, List.take_length, List.take_add_one, hd]
        have : x ∈ keys wy ++ [d.2.kp] ↔ sees d.2 x := by
          unfold sees
          rw [List.mem_append, List.mem_singleton, show x ∈ keys wy ↔ x ∈ keys d.2.wy from (pw.map _).mem_iff]
        rw [this]
        simp only [Option.toList_some, List.mem_append, List.mem_singleton]
        constructor
        · rintro (⟨p, hp, hs⟩ | hs)
          · exact ⟨p, .inl hp, hs⟩
          · exact ⟨d, .inr rfl, hs⟩
        · rintro ⟨p, hp | hp, hs⟩
          · exact .inl ⟨p, hp, hs⟩
          · exact .inr (hp ▸ hs)
    · rintro σ H1 ⟨e, ⟨fs, hD, nf, lf, mf⟩, u, v, rfl⟩
      refine ⟨_, rfl, D, _, fs, rfl, .inl hD, by simp [trueD], by omega, fun ys q py sy nq => ?_⟩
      refine k _ q ys (e.trans (same_upd nq)) (e.free nq) (py.nodup_iff.mpr nf) (fun h => ?_) upd_same
      rw [py.mem_iff, mf, List.take_length]

theorem filt_split {α : Type} (l : List α) (f : α → Nat) : (l.filter fun x => decide (f x = 0)).length + (l.filter fun x => decide (f x ≠ 0)).length = l.length := by
  induction l with
  | nil => rfl
  | cons x r ih =>
    by_cases h : f x = 0
    · simp only [List.filter_cons, h, decide_true, if_true, List.length_cons]
      simp only [ne_eq, not_true_eq_false, decide_false, Bool.false_eq_true, if_false]
      simp only [ne_eq] at ih
      omega
    · simp only [List.filter_cons, h, decide_false, Bool.false_eq_true, if_false, ne_eq, not_false_eq_true, decide_true, if_true, List.length_cons]
      simp only [ne_eq] at ih
      omega
theorem len_hops {ys hs : List Str} {ips : List (Addr × Item)} (nd : ys.Nodup) (hy : ∀ h, h ∈ ys ↔ ∃ p ∈ ips, sees p.2 h) (hh : ∀ q ∈ ips, q.2.kp ∈ hs ∧ ∀ h ∈ keys q.2.wy, h ∈ hs) : ys.length ≤ hs.length := by
  refine nodup_le nd fun x hx => ?_
  obtain ⟨p, hp, hs | hs⟩ := (hy x).mp hx
  · exact (hh p hp).2 x hs
  · rw [hs]; exact (hh p hp).1
def sp_want_few (K : PySem.W.Frag) : Sp := fun vs H Q _ => ∃ (a : Addr) (ips : List (Addr × Item)), vs = [.ref a] ∧ H a = some (.lst (refs ips)) ∧ Ats K H ips ∧ ips.length ≤ 6 ∧ (∀ q ∈ ips, q.2.wy.length ≤ 5) ∧
  (∃ hs : List Str, hs.length ≤ 6 ∧ ∀ q ∈ ips, q.2.kp ∈ hs ∧ ∀ h ∈ keys q.2.wy, h ∈ hs) ∧ (ips.filter fun q => decide (q.2.k ≠ 0)).length ≤ 5 ∧
  (∀ q ∈ ips, (ips.filter fun o => decide (pre o.2.st q.2.st)).length ≤ 5) ∧ ∀ H', Same H H' → Q .non H'
/-! want_few: 0:items 1:leaves *2:item 3:other -/
abbrev n_want_few : List Str := ["items", "leaves", "item", "other"]
theorem sc_want_few : FnScope n_want_few ["items"] (defScope s_want_few) := ⟨rfl, rfl, rfl, by decide +kernel, rfl, by decide +kernel, by decide +kernel⟩
theorem c_want_few (T : Txt K mg) : Cal P w K mg base 2 (He.ga K "want_few") ["items"] (sp_want_few K) := by
  refine T.d_want_few.cal sc_want_few (fun _ _ _ _ _ _ us hl => match us, hl with | [_], _ => rfl) (fun vs H Q E h => ?_) (fun cdv A outer s H vs Q E hr h => ?_)
  · obtain ⟨_, _, rfl, _⟩ := h; rfl
  · obtain ⟨a, ips, rfl, ha, hat, hl, hw, ⟨hs, hs6, hh⟩, hg, hn, k⟩ := h
    obtain ⟨tMOST_HOPS, hMOST_HOPS⟩ := T.i_MOST_HOPS
    obtain ⟨tMOST_LEAVES, hMOST_LEAVES⟩ := T.i_MOST_LEAVES
    obtain ⟨tMOST_GATHERERS, hMOST_GATHERERS⟩ := T.i_MOST_GATHERERS
    obtain ⟨tMOST_NESTED, hMOST_NESTED⟩ := T.i_MOST_NESTED
    refine ⟨_, (pss_cons (ps_setLc (i := 1) (own := [("item", 2)]) (g := gName 2) rfl sc_want_few.nd rfl rfl (sw_true rfl rfl rfl (by decide +kernel)) (kpi_list K (pv 0)) (blkOk_by (N := n_want_few) (sc := defScope s_want_few) (by decide +kernel)) (fun _ _ _ _ _ => (pg_name (i := 2) sc_want_few.nd rfl (Or.inl rfl))) (fun _ _ _ _ _ => (pts_one (pt_val (pe_callB (kcall_isi K) (by rfl) T.b_isinstance bt_isinstance (pa_cons (pv 2) (pa_cons (pe_glob (v := .ref (He.ga K "Leaf")) rfl T.g_Leaf rfl) pa_nil)))))) (fun _ _ _ _ _ => (pv 2)))
      (pss_cons (ps_if (pt_cmpR op_gt (pe_callB (kcall_len_seq K) (by rfl) T.b_len bt_len (pa_cons (pe_cal (c_hops_of T) (hr.mono (by decide)) (by rfl) T.g_hops_of (pa_cons (pv 0) pa_nil)) pa_nil)) (pe_glob (v := .int 6) rfl hMOST_HOPS ⟨_, rfl⟩) (nomark _))
        pss_never pss_nil)
      (pss_cons (ps_if (pt_cmpR op_gt (pe_callB (kcall_len_seq K) (by rfl) T.b_len bt_len (pa_cons (pv 1) pa_nil)) (pe_glob (v := .int 6) rfl hMOST_LEAVES ⟨_, rfl⟩) (nomark _))
        pss_never pss_nil)
      (pss_cons (ps_if (pt_cmpR op_gt (pe_op op_sub (pe_callB (kcall_len_seq K) (by rfl) T.b_len bt_len (pa_cons (pv 0) pa_nil)) (pe_callB (kcall_len_seq K) (by rfl) T.b_len bt_len (pa_cons (pv 1) pa_nil))) (pe_glob (v := .int 5) rfl hMOST_GATHERERS ⟨_, rfl⟩) (nomark _))
        pss_never pss_nil)
      (pss_one (ps_for PassesOwn.never rfl (kpi_list K (pv 0)) (pg_name (i := 2) sc_want_few.nd rfl (Or.inr rfl))
        (pss_one (ps_if (pt_cmpR op_gt (pe_callB (kcall_len_seq K) (by rfl) T.b_len bt_len (pa_cons (pe_lc (own := [("other", 3)]) (g := gName 3) rfl sc_want_few.nd (kpi_list K (pv 0)) (blkOk_by (N := n_want_few) (sc := defScope s_want_few) (by decide +kernel)) (fun _ _ _ _ _ => (pg_name (i := 3) sc_want_few.nd rfl (Or.inl rfl))) (fun _ _ _ _ _ => (pts_one (pt_val (pe_sw (kpe_fld K (pv 2) rfl) (kpe_fld K (pv 3) rfl))))) (fun _ _ _ _ _ => (pv 3))) pa_nil)) (pe_glob (v := .int 5) rfl hMOST_NESTED ⟨_, rfl⟩) (nomark _))
          pss_never pss_nil)))))))), ?_⟩
    refine ⟨_, rfl, a, rfl, ⟨_, SqL.of ha⟩, ?_⟩
    refine lcG ips (fun q => decide (q.2.k = 0)) (fun q v _ => v = .ref q.1) (by omega) (fun _ _ _ _ _ h => h) ?_ ?_ ?_ ?_
    · intro i H' hi e; exact itl_go (SqL.of (e _ _ ha)) (by rw [refs_len]; exact hi)
    · intro H' e; exact itl_stop (SqL.of (e _ _ ha)) (refs_len _)
    · intro i d D x H1 H2 hd hD hD1 e y Ry Rn hy hn
      obtain ⟨rfl, hx⟩ := y
      have hx' := hx _ (SqL.of (off_le _ _ (e _ _ ha)))
      rw [refs, List.getElem?_map, hd] at hx'
      cases hx'
      have i1 := ((hat d (List.mem_of_getElem? hd)).mono e).mono off_le
      refine ⟨rfl, _, rfl, _, _, _, _, _, rfl, .own _, ty_item T i1, kit_Leaf T _, _, rfl, ?_⟩
      by_cases hk : d.2.k = 0
      · rw [decide_eq_true hk]
        exact iteT ⟨_, rfl, hy (decide_eq_true hk) _ _ (Same.refl _) rfl⟩
      · rw [decide_eq_false hk]
        exact iteF (hn (decide_eq_false hk) _ (Same.refl _))
    intro lL H1 ys nL e hL hp
    have eL : ys = refs (ips.filter fun q => decide (q.2.k = 0)) := paired_eq (r := fun q : Addr × Item => V.ref q.1) hp
    subst eL
    have s1 : Same H H1 := e.trans off_le
    have ll : (ips.filter fun q => decide (q.2.k = 0)).length ≤ 6 := Nat.le_trans (List.length_filter_le _ _) hl
    have sp := filt_split ips (·.2.k)
    refine ⟨_, rfl, a, ips, rfl, s1 _ _ ha, hat.mono s1, hl, hw, fun H2 q ys e2 nq nd my hq => ?_⟩
    have yl : ys.length ≤ 6 := Nat.le_trans (len_hops nd my hh) hs6
    refine ⟨q, _, rfl, .inl (SqL.of hq), _, _, rfl, rfl, _, rfl, ?_⟩
    rw [decide_eq_false (by rw [sL_len]; omega)]
    have s2 := s1.trans e2
    refine iteF ⟨_, rfl, lL, _, rfl, .inl (SqL.of (e2 _ _ hL)), _, _, rfl, rfl, _, rfl, ?_⟩
    rw [decide_eq_false (by rw [refs_len]; omega)]
    refine iteF ⟨_, rfl, a, _, rfl, .inl (SqL.of (s2 _ _ ha)), _, rfl, lL, _, rfl, .inl (SqL.of (e2 _ _ hL)), _, _, rfl, rfl, _, _, rfl, rfl, _, rfl, ?_⟩
    rw [decide_eq_false (by rw [refs_len, refs_len]; omega)]
    refine iteF ⟨_, rfl, a, rfl, ⟨_, SqL.of (s2 _ _ ha)⟩, ?_⟩
    refine forG ips.length (fun i σ H' => Same H H' ∧ ∃ u v, σ = [some (.ref a), some (.ref lL), u, v]) ⟨s2, _, _, rfl⟩ ?_ ?_ ?_ ?_
    · rintro i σ H' hi ⟨e, _⟩; exact itl_go (SqL.of (e _ _ ha)) (by rw [refs_len]; exact hi)
    · rintro σ H' ⟨e, _⟩; exact itl_stop (SqL.of (e _ _ ha)) (refs_len _)
    · rintro i x σ H3 H4 hi ⟨e, u, v, rfl⟩ ⟨rfl, hx⟩
      obtain ⟨d, hd⟩ : ∃ d, ips[i]? = some d := ⟨_, List.getElem?_eq_getElem hi⟩
      have hx' := hx _ (SqL.of (e _ _ ha))
      rw [refs, List.getElem?_map, hd] at hx'
      cases hx'
      have dm := List.mem_of_getElem? hd
      refine ⟨_, rfl, a, rfl, ⟨_, SqL.of (e _ _ ha)⟩, ?_⟩
      refine lcG ips (fun o => decide (pre o.2.st d.2.st)) (fun q v _ => v = .ref q.1) (by omega) (fun _ _ _ _ _ h => h) ?_ ?_ ?_ ?_
      · intro i H' hi e'; exact itl_go (SqL.of (e' _ _ (e _ _ ha))) (by rw [refs_len]; exact hi)
      · intro H' e'; exact itl_stop (SqL.of (e' _ _ (e _ _ ha))) (refs_len _)
      · intro i o D x H5 H6 ho hD hD1 e' y Ry Rn hy hn
        obtain ⟨rfl, hx⟩ := y
        have hx' := hx _ (SqL.of (off_le _ _ (e' _ _ (e _ _ ha))))
        rw [refs, List.getElem?_map, ho] at hx'
        cases hx'
        have s5 := (e.trans e').trans off_le
        have i1 := (hat d dm).mono s5
        have i2 := (hat o (List.mem_of_getElem? ho)).mono s5
        refine ⟨rfl, _, rfl, rd_stretch T i1 ⟨⟨_, rfl⟩, _, rfl, rd_stretch T i2 ⟨_, _, rfl, rfl, _, rfl, ?_⟩⟩⟩
        rw [sw_dec]
        by_cases hk : pre o.2.st d.2.st
        · rw [decide_eq_true hk]
          exact iteT ⟨_, rfl, hy (decide_eq_true hk) _ _ (Same.refl _) rfl⟩
        · rw [decide_eq_false hk]
          exact iteF (hn (decide_eq_false hk) _ (Same.refl _))
      intro lC H5 ys nC e' hC hp2
      have el := paired_len hp2
      refine ⟨lC, _, rfl, .inl (SqL.of hC), _, _, rfl, rfl, _, rfl, ?_⟩
      rw [decide_eq_false (by rw [← el]; have := hn d dm; omega)]
      exact iteF ⟨(e.trans e').trans off_le, _, _, rfl⟩
    · rintro σ H' ⟨e, _⟩
      exact k H' e

theorem perm_lift {α : Type} {f : α → Str} {ys zs : List Str} (p : ys.Perm zs) : ∀ {l : List α}, zs = l.map f → ∃ m : List α, m.Perm l ∧ ys = m.map f := by
  induction p with
  | nil =>
    intro l e
    cases l with
    | nil => exact ⟨[], .nil, rfl⟩
    | cons x r => cases e
  | cons x _ ih =>
    intro l e
    cases l with
    | nil => cases e
    | cons y r =>
      rw [List.map_cons] at e
      injection e with e1 e2
      obtain ⟨m, pm, em⟩ := ih e2
      exact ⟨y :: m, pm.cons y, by rw [e1, em, List.map_cons]⟩
  | swap x y t =>
    intro l e
    cases l with
    | nil => cases e
    | cons a r =>
      cases r with
      | nil => rw [List.map_cons] at e; injection e with _ e2; cases e2
      | cons b r =>
        rw [List.map_cons, List.map_cons] at e
        injection e with e1 e2
        injection e2 with e2 e3
        exact ⟨b :: a :: r, .swap a b r, by rw [List.map_cons, List.map_cons, ← e1, ← e2, ← e3]⟩
  | trans _ _ ih1 ih2 =>
    intro l e
    obtain ⟨m, pm, em⟩ := ih2 e
    obtain ⟨m', pm', em'⟩ := ih1 em
    exact ⟨m', pm'.trans pm, em'⟩
abbrev N2 (x1 x2 : V) : List (Str × V) := [("own_width", x1), ("told_items", x2)]
abbrev N3 (x1 x2 x3 : V) : List (Str × V) := [("own_width", x1), ("told_items", x2), ("own_items", x3)]
theorem pn1 {y : V} : putF ("own_width" : Str) y [] = [(("own_width" : Str), y)] := rfl
theorem pn2 {x1 y : V} : putF ("told_items" : Str) y [(("own_width" : Str), x1)] = N2 x1 y := by rw [put_miss (by decide +kernel)]; rfl
theorem pn3 {x1 x2 y : V} : putF ("own_items" : Str) y (N2 x1 x2) = N3 x1 x2 y := by rw [put_miss (by decide +kernel), put_miss (by decide +kernel)]; rfl
theorem ItemAt.but {K : PySem.W.Frag} {H H' : Hp} {p q C dx : Addr} {it : Item} (h : ItemAt K H q it) (B : But p H H') (hp : H p = some (.ins C dx [])) : ItemAt K H' q it := by
  obtain ⟨kle, dx, wA, pA, mA, wy, h1, h2, h3, h4, h5⟩ := h
  refine ⟨kle, dx, wA, pA, mA, wy, B _ _ (fun z => ?_) h1, h2, B _ _ (fun z => ?_) h3, B _ _ (fun z => ?_) h4, fun hk => B _ _ (fun z => ?_) (h5 hk)⟩
  · rw [z, hp] at h1; unfold fl at h1; injection h1 with h1; injection h1 with _ _ h1; cases h1
  · rw [z, hp] at h3; cases h3
  · rw [z, hp] at h4; cases h4
  · have := h5 hk; rw [z, hp] at this; cases this
def sp_Gathered_init (K : PySem.W.Frag) : Sp := fun vs H Q _ => ∃ (p dx a : Addr) (w : Nat) (ips : List (Addr × Item)), vs = [.ref p, .int w, .ref a] ∧ H p = some (.ins (He.ga K "Gathered") dx []) ∧ H a = some (.lst (refs ips)) ∧ Ats K H ips ∧ NetOk w (ips.map (·.2)) ∧
  ∀ H', But p H H' → NetAt K H' p w (ips.map (·.2)) → Q .non H'
/-! Gathered.__init__: 0:self 1:width 2:items *3:told 4:item 5:name -/
abbrev n_Gathered_init : List Str := ["self", "width", "items", "told", "item", "name"]
theorem sc_Gathered_init : FnScope n_Gathered_init ["self", "width", "items"] (defScope s_Gathered_init) := ⟨rfl, rfl, rfl, by decide +kernel, rfl, by decide +kernel, by decide +kernel⟩
theorem c_Gathered_init (T : Txt K mg) : Cal P w K mg base 4 (He.ma K (He.ga K "Gathered") "__init__") ["self", "width", "items"] (sp_Gathered_init K) := by
  refine T.d_Gathered_init.cal sc_Gathered_init (fun _ _ _ _ _ _ us hl => match us, hl with | [_, _, _], _ => rfl) (fun vs H Q E h => ?_) (fun cdv A outer s H vs Q E hr h => ?_)
  · obtain ⟨_, _, _, _, _, rfl, _⟩ := h; rfl
  · obtain ⟨p, dx, a, w, ips, rfl, hp0, ha, hat, ok, k⟩ := h
    have hap : a ≠ p := fun z => by rw [z, hp0] at ha; cases ha
    have hl : ips.length ≤ 6 := by have := ok.len; rwa [List.length_map] at this
    have okq : ∀ q ∈ ips, ItOk q.2 := fun q hq => ok.ok _ (List.mem_map.mpr ⟨q, hq, rfl⟩)
    have swq : ∀ q ∈ ips, q.2.st.length ≤ w := fun q hq => ok.sw _ (List.mem_map.mpr ⟨q, hq, rfl⟩)
    have nn : (ips.map (·.2.nm)).Nodup := by have := ok.nmU; rwa [List.map_map] at this
    have ns : (ips.map (·.2.st)).Nodup := by have := ok.stU; rwa [List.map_map] at this
    have hne : ips ≠ [] := fun z => ok.ne (by rw [z]; rfl)
    have w2 := ok.w2
    have cG := T.c_Gathered
    have hu := hu_of hr
    refine ⟨_, (pss_cons (ps_expr (pe_cal (c_want_width T) (hr.mono (by decide)) (by rfl) T.g_want_width (pa_cons (pv 1) pa_nil)))
      (pss_cons (ps_expr (pe_cal (c_want_items T) (hr.mono (by decide)) (by rfl) T.g_want_items (pa_cons (pv 1) (pa_cons (pv 2) pa_nil))))
      (pss_cons (ps_set (i := 3) sc_Gathered_init.nd rfl (Or.inr rfl) (pe_dc (own := [("item", 4)]) (g := gName 4) (tt := tYes) rfl sc_Gathered_init.nd (kpi_list K (pv 2)) (blkOk_by (N := n_Gathered_init) (sc := defScope s_Gathered_init) (by decide +kernel)) (fun _ _ _ _ _ => (pg_name (i := 4) sc_Gathered_init.nd rfl (Or.inl rfl))) (fun _ _ _ _ _ => pts_nil) (fun _ _ _ _ _ => (kpe_fld K (pv 4) rfl)) (fun _ _ _ _ _ => (pv 4))))
      (pss_cons (ps_expr (pe_cal (c_want_gathered T) (hr.mono (by decide)) (by rfl) T.g_want_gathered (pa_cons (pv 3) pa_nil)))
      (pss_cons (ps_expr (pe_cal (c_want_few T) (hr.mono (by decide)) (by rfl) T.g_want_few (pa_cons (pe_callTy (kcall_list_of K) (by rfl) T.b_list bt_list (pa_cons (pv 2) pa_nil)) pa_nil)))
      (pss_cons (ps_fld (pv 0) (pv 1) rfl)
      (pss_cons (ps_fld (pv 0) (pe_callTy (kcall_list_of K) (by rfl) T.b_list bt_list (pa_cons (pv 2) pa_nil)) rfl)
      (pss_one (ps_fld (pv 0) (pe_dc (own := [("name", 5)]) (g := gName 5) (tt := tYes) rfl sc_Gathered_init.nd (kpi_list K (pe_callB (call_sortedD rfl) (by rfl) T.b_sorted bt_sorted (pa_cons (pv 3) pa_nil))) (blkOk_by (N := n_Gathered_init) (sc := defScope s_Gathered_init) (by decide +kernel)) (fun _ _ _ _ _ => (pg_name (i := 5) sc_Gathered_init.nd rfl (Or.inl rfl))) (fun _ _ _ _ _ => pts_nil) (fun _ _ _ _ _ => (pv 5)) (fun _ _ _ _ _ => (pe_dget hu (pv 3) (pv 5) (fun _ _ => rfl)))) rfl))))))))), ?_⟩
    refine ⟨_, rfl, (w : Int), rfl, by have := ok.w1; omega, by omega, fun H1 e1 => ?_⟩
    refine ⟨_, rfl, _, rfl, w, a, ips, rfl, e1 _ _ ha, hat.mono e1, hne, hl, w2, swq, nn, ns, fun H2 e2 => ?_⟩
    have s2 := e1.trans e2
    refine ⟨_, rfl, a, rfl, ⟨_, SqL.of (s2 _ _ ha)⟩, ?_⟩
    refine dcG ips (·.2.nm) (fun q v _ => v = .ref q.1) nn (by omega) (fun _ _ _ _ _ h => h) ?_ ?_ ?_ ?_
    · intro i H' hi e; exact itl_go (SqL.of (e _ _ (s2 _ _ ha))) (by rw [refs_len]; exact hi)
    · intro H' e; exact itl_stop (SqL.of (e _ _ (s2 _ _ ha))) (refs_len _)
    · intro i d D x G1 G2 hd hD hD1 e y Ry hy
      obtain ⟨rfl, hx⟩ := y
      have hx' := hx _ (SqL.of (off_le _ _ (e _ _ (s2 _ _ ha))))
      rw [refs, List.getElem?_map, hd] at hx'
      cases hx'
      exact ⟨rfl, _, rfl, rd_name T ((hat d (List.mem_of_getElem? hd)).mono ((s2.trans e).trans off_le)) ⟨_, rfl, hy _ _ (Same.refl _) rfl⟩⟩
    intro D H3 kvs nD e3 hD hpk
    have ekv : kvs = okv ips := by
      have : Paired (fun (q : Addr × Item) (z : Key × V) => z = (Sum.inr q.2.nm, V.ref q.1)) ips kvs := paired_mono hpk fun q z h => Prod.ext h.1 h.2
      rw [paired_eq this]; rfl
    subst ekv
    have s3 : Same H H3 := (s2.trans e3).trans off_le
    have stq : ∀ q ∈ ips, q.2.st.length ≤ 100 := fun q hq => (okq q hq).stl
    refine ⟨_, rfl, D, ips, rfl, hD, hat.mono s3, hl, nn, stq, fun g hg hk => ⟨((okq g hg).mb hk).2.1, fun m hm => ?_⟩, ?_, fun H4 e4 => ?_⟩
    · obtain ⟨x, hx, ex, rx⟩ := ok.mem g.2 (List.mem_map.mpr ⟨g, hg, rfl⟩) hk m hm
      obtain ⟨q, hq, rfl⟩ := List.mem_map.mp hx
      exact ⟨q, hq, ex, rx⟩
    · have := ok.dis
      rw [List.filter_map, List.flatMap_map] at this
      exact this
    have s4 := s3.trans e4
    refine ⟨_, rfl, a, _, rfl, .inl (SqL.of (s4 _ _ ha)), fun l1 n1 => ?_⟩
    refine ⟨l1, ips, rfl, upd_same, (hat.mono s4).mono (same_upd n1), hl, fun q hq => (okq q hq).way.few, ?_, ?_, ?_, fun H5 e5 => ?_⟩
    · obtain ⟨hs, h6, hh⟩ := ok.hops
      exact ⟨hs, h6, fun q hq => hh _ (List.mem_map.mpr ⟨q, hq, rfl⟩)⟩
    · have := ok.gath
      rw [List.filter_map, List.length_map] at this
      exact this
    · intro q hq
      have := ok.nest q.2 (List.mem_map.mpr ⟨q, hq, rfl⟩)
      rw [List.filter_map, List.length_map] at this
      exact this
    have s5 : Same H H5 := (s4.trans (same_upd n1)).trans e5
    have D5 : H5 D = some (.dK (okv ips)) := e5 _ _ (same_upd n1 _ _ (e4 _ _ hD))
    have hDp : D ≠ p := fun z => by rw [z, s2 _ _ hp0] at nD; cases nD
    refine ⟨_, rfl, _, rfl, p, _, dx, _, rfl, s5 _ _ hp0, cG.cl, T.n_own_width, by decide, ?_⟩
    have B6 : But p H (upd H5 p (.ins (He.ga K "Gathered") dx (putF "own_width" (.int w) []))) := (But.of s5).set
    have D6 : (upd H5 p (.ins (He.ga K "Gathered") dx (putF "own_width" (.int w) []))) D = some (.dK (okv ips)) := by rw [upd_ne hDp]; exact D5
    have p6 : (upd H5 p (.ins (He.ga K "Gathered") dx (putF "own_width" (.int w) []))) p = some (.ins (He.ga K "Gathered") dx [("own_width", .int w)]) := upd_same
    generalize upd H5 p (.ins (He.ga K "Gathered") dx (putF "own_width" (.int w) [])) = H6 at B6 D6 p6 ⊢
    refine ⟨_, rfl, a, _, rfl, .inl (SqL.of (B6 _ _ hap ha)), fun l2 n2 => ?_⟩
    refine ⟨_, rfl, p, _, dx, _, rfl, same_upd n2 _ _ p6, cG.cl, T.n_told_items, (by show (1 : Nat) < 1000; decide), ?_⟩
    rw [pn2]
    have hl2p : l2 ≠ p := fun z => by rw [z, p6] at n2; cases n2
    have B7 : But p H (upd (upd H6 l2 (.lst (refs ips))) p (.ins (He.ga K "Gathered") dx (N2 (.int w) (.ref l2)))) := (B6.same (same_upd n2)).set
    have D7 : (upd (upd H6 l2 (.lst (refs ips))) p (.ins (He.ga K "Gathered") dx (N2 (.int w) (.ref l2)))) D = some (.dK (okv ips)) := by rw [upd_ne hDp]; exact same_upd n2 _ _ D6
    have p7 : (upd (upd H6 l2 (.lst (refs ips))) p (.ins (He.ga K "Gathered") dx (N2 (.int w) (.ref l2)))) p = some (.ins (He.ga K "Gathered") dx (N2 (.int w) (.ref l2))) := upd_same
    have l7 : (upd (upd H6 l2 (.lst (refs ips))) p (.ins (He.ga K "Gathered") dx (N2 (.int w) (.ref l2)))) l2 = some (.lst (refs ips)) := by rw [upd_ne hl2p]; exact upd_same
    generalize upd (upd H6 l2 (.lst (refs ips))) p (.ins (He.ga K "Gathered") dx (N2 (.int w) (.ref l2))) = H7 at B7 D7 p7 l7 ⊢
    refine ⟨_, rfl, D, _, ips.map (·.2.nm), rfl, .inl D7, by simp [okv], by rw [List.length_map]; omega, fun ys q py sy nq => ?_⟩
    obtain ⟨ops, po, eo⟩ := perm_lift py rfl
    subst eo
    have s8 := same_upd (o := .lst ((ops.map (·.2.nm)).map V.str)) nq
    have nno : (ops.map (·.2.nm)).Nodup := py.nodup_iff.mpr nn
    refine ⟨q, rfl, ⟨_, SqL.of upd_same⟩, ?_⟩
    refine dcG ops (·.2.nm) (fun q v _ => v = .ref q.1) nno (by rw [po.length_eq]; omega) (fun _ _ _ _ _ h => h) ?_ ?_ ?_ ?_
    · intro i H' hi e; exact itl_go (SqL.of (e _ _ upd_same)) (by simpa using hi)
    · intro H' e; exact itl_stop (SqL.of (e _ _ upd_same)) (by simp)
    · intro i o D2 x G1 G2 ho hD2 hD1 e y Ry hy
      obtain ⟨rfl, hx⟩ := y
      have hx' := hx _ (SqL.of (off_le _ _ (e _ _ upd_same)))
      rw [List.getElem?_map, List.getElem?_map, ho] at hx'
      cases hx'
      exact ⟨rfl, _, rfl, _, rfl, _, rfl, D, V.ref o.1, rfl, .inl ⟨_, Sum.inr o.2.nm, .inl (off_le _ _ (e _ _ (s8 _ _ D7))), rfl, (valV_okv nn (po.mem_iff.mp (List.mem_of_getElem? ho))).symm⟩, hy _ _ (Same.refl _) rfl⟩
    intro D2 H8 kvs nD2 e8 hD2 hpk2
    have ekv : kvs = okv ops := by
      have : Paired (fun (q : Addr × Item) (z : Key × V) => z = (Sum.inr q.2.nm, V.ref q.1)) ops kvs := paired_mono hpk2 fun q z h => Prod.ext h.1 h.2
      rw [paired_eq this]; rfl
    subst ekv
    have s9 : Same H7 H8 := (s8.trans e8).trans off_le
    have hD2p : D2 ≠ p := fun z => by rw [z, s8 _ _ p7] at nD2; cases nD2
    refine ⟨_, rfl, p, _, dx, _, rfl, s9 _ _ p7, cG.cl, T.n_own_items, (by show (2 : Nat) < 1000; decide), ?_⟩
    rw [pn3]
    have B9 : But p H (upd H8 p (.ins (He.ga K "Gathered") dx (N3 (.int w) (.ref l2) (.ref D2)))) := (B7.same s9).set
    refine k _ B9 ⟨dx, l2, D2, ips, ops, upd_same, ?_, ?_, po, rfl, fun q hq => ?_⟩
    · rw [upd_ne hl2p]; exact s9 _ _ l7
    · rw [upd_ne hD2p]; exact hD2
    · exact (hat q hq).but B9 hp0
end
end Cw

/-! CwOwnB -/
set_option Elab.async false
set_option linter.all false
set_option maxRecDepth 100000
set_option maxHeartbeats 4000000
/-! Own rules: x not in o, o[x], o of an own class. -/
namespace Cw
open PySem PySem.Spec PyProof.Rows L2
theorem DefAt.fnIn {K : PySem.W.Frag} {x qual : Str} {st : Stmt} {n : Nat} {f : Addr} (D : DefAt K x qual st n f) : PySem.W.fnIn K f = true := by
  obtain ⟨dvs, fd, _, F⟩ := D
  obtain ⟨oc, od, dV, kV, doc, pm, an, cdv, ct, osl, rfl, lk, _⟩ := F.ex
  unfold PySem.W.fnIn
  rw [lk]
def rNotInOwn (OkC : Addr → Prop) (sp : Sp) : R2 := fun x y H Q => ∃ b C dx fs, y = .ref b ∧ H b = some (.ins C dx fs) ∧ OkC C ∧ sp [y, x] H (fun z H' => ∃ k, z = .bl k ∧ Q (.bl (!k)) H') E0
def tGetOwn (OkC : Addr → Prop) (sp : Sp) (ta tb : TE) : TE := fun σ H Q => ta σ H fun x H1 => tb σ H1 fun y H2 => ∃ b C dx fs, x = .ref b ∧ H2 b = some (.ins C dx fs) ∧ OkC C ∧ sp [x, y] H2 Q E0
section
variable {X : Cx} {k : Nat} {f : Addr} {ps : List Str} {sp : Sp} {OkC : Addr → Prop}
theorem op_notInOwn (hm : IsM X.K OkC "__contains__" f) (Cc : Cal X.prog X.w X.K X.mg X.base k f ps sp) (hr : Room k X.A) : OpR X (compareOp .NotIn) (rNotInOwn OkC sp) := by
  intro pins s σ H x y v u Q I rx ry h
  obtain ⟨fd, F, b, kp⟩ := Cc.ex
  obtain ⟨p, C, dx, fs, rfl, hp, hC, q⟩ := h
  cases ry
  obtain ⟨c1, c2⟩ := hm.ok C hC
  obtain ⟨mA, J, _⟩ := ins_get I.hok hp
  obtain ⟨od, J, _⟩ := J.look
  obtain ⟨m, hF⟩ := I.fr
  refine PySem.W.notIn_K hF I.ok.mod.kin J c2.at_ c2.fn ?_
  refine wpAny_mono (run_fn (us := [.ref p, v]) (vs := [.ref p, x]) F hr b .nil pass0 I (.cons rfl (.cons rx .nil)) q) (fun r s' z => ?_) fun _ _ x => x
  obtain ⟨z, H', I', rz, k, rfl, q'⟩ := z
  cases rz
  exact wpAny_truthy_bool ⟨.bl (!k), H', I', rfl, q'⟩
theorem pe_getOwn {o i : Expr} {ta tb : TE} {pos : Pos} (hm : IsM X.K OkC "__getitem__" f) (Cc : Cal X.prog X.w X.K X.mg X.base k f ps sp) (hfn : PySem.W.fnIn X.K f = true) (hr : Room (k + 1) X.A) (ho : PE X o ta) (hi : PE X i tb)
    (hs : ∀ x y, subscripted i true x y = runValue (.builtin "lifetime.subscript" ⟨[x, y], []⟩) := by intro _ _; rfl) :
    PE X (.Subscript o i pos) (tGetOwn OkC sp ta tb) := by
  refine ⟨fun pins s σ H Q I h => ?_⟩
  refine Subscript_ (thn (ho.run pins s σ H _ I h) fun u s1 ⟨x, H1, I1, rx, q1⟩ => thn (hi.run pins s1 σ H1 _ I1 q1) fun iv s2 ⟨y, H2, I2, ry, p, C, dx, fs, ex, hp, hC, q⟩ => ?_)
  subst ex
  obtain rfl : u = Value.ref p := rx
  obtain ⟨fd, F, b, kp⟩ := Cc.ex
  obtain ⟨c1, c2⟩ := hm.ok C hC
  obtain ⟨mA, J, _⟩ := ins_get I2.hok hp
  obtain ⟨od, J, _⟩ := J.look
  obtain ⟨m, hF⟩ := I2.fr
  refine PySem.W.sub_K hF I2.ok.mod.kin J c2.at_ hfn c2.fn ?_ (hs _ _)
  have hl := F.len _ _ _ _ q
  have r2 : Vals [V.ref p, y] [Value.ref p, iv] := .cons rfl (.cons ry .nil)
  refine wpAny_call (codeAny_mono (F.run X.A.in1 X.stack s2 H2 ⟨[.ref p, iv], []⟩ [.ref p, iv] [.ref p, y] Q E0 (Room.in1 hr) I2.env0.in1 (by
    have := b s2 [.ref p, iv] I2.kIn (by simpa using hl)
    simpa using this) r2 q) fun r s' hq => ?_)
  cases r with
  | error e => exact pass0 pins σ H2 s2 e s' I2 hq
  | ok fl =>
    cases fl with
    | ret u => exact I2.after hq
    | next => exact False.elim hq
    | brk => exact False.elim hq
    | cont => exact False.elim hq
end
end Cw

/-! CwH -/
set_option Elab.async false
set_option linter.all false
set_option maxRecDepth 100000
set_option maxHeartbeats 4000000
namespace Cw
open PySem PySem.Spec PyProof.Rows L2
section
variable {P : Program} {w : World} {K : PySem.W.Frag} {mg : Str → Option Value} {base : Heap}
/-! a net asked -/
def sp_Gathered_hops (K : PySem.W.Frag) : Sp := fun vs H Q _ => ∃ (p : Addr) (w : Nat) (its : List Item), vs = [.ref p] ∧ NetAt K H p w its ∧ NetOk w its ∧
  ∀ H' q ys, Same H H' → H q = none → ys.Nodup → (∀ h, h ∈ ys ↔ ∃ it ∈ its, sees it h) → H' q = some (.lst (sL ys)) → Q (.ref q) H'
theorem wy5 {w : Nat} {its : List Item} {ips : List (Addr × Item)} (ok : NetOk w its) (e : its = ips.map (·.2)) : ∀ q ∈ ips, q.2.wy.length ≤ 5 := fun q hq => (ok.ok _ (by rw [e]; exact List.mem_map.mpr ⟨q, hq, rfl⟩)).way.few
theorem len6 {w : Nat} {its : List Item} {ips : List (Addr × Item)} (ok : NetOk w its) (e : its = ips.map (·.2)) : ips.length ≤ 6 := by have := ok.len; rwa [e, List.length_map] at this
/-! Gathered.hops: 0:self -/
abbrev n_Gathered_hops : List Str := ["self"]
theorem sc_Gathered_hops : FnScope n_Gathered_hops ["self"] (defScope s_Gathered_hops) := ⟨rfl, rfl, rfl, by decide +kernel, rfl, by decide +kernel, by decide +kernel⟩
theorem c_Gathered_hops (T : Txt K mg) : Cal P w K mg base 2 (He.ma K (He.ga K "Gathered") "hops") ["self"] (sp_Gathered_hops K) := by
  refine T.d_Gathered_hops.cal sc_Gathered_hops (fun _ _ _ _ _ _ us hl => match us, hl with | [_], _ => rfl) (fun vs H Q E h => ?_) (fun cdv A outer s H vs Q E hr h => ?_)
  · obtain ⟨_, _, _, rfl, _⟩ := h; rfl
  · obtain ⟨p, w, its, rfl, hn, ok, k⟩ := h
    refine ⟨_, (pss_one (ps_ret (pe_cal (c_hops_of T) (hr.mono (by decide)) (by rfl) T.g_hops_of (pa_cons (kpe_fld K (pv 0) rfl) pa_nil)))), ?_⟩
    refine ⟨_, rfl, rd_told T hn fun lA ips hA e hat => ⟨lA, ips, rfl, hA, hat, len6 ok e, wy5 ok e, fun H' q ys e' nq nd my hq => k H' q ys e' nq nd (fun h => ?_) hq⟩⟩
    rw [my, e]
    constructor
    · rintro ⟨q, hq, s⟩; exact ⟨_, List.mem_map.mpr ⟨q, hq, rfl⟩, s⟩
    · rintro ⟨it, hi, s⟩
      obtain ⟨q, hq, rfl⟩ := List.mem_map.mp hi
      exact ⟨q, hq, s⟩

def sp_Gathered_leaves (K : PySem.W.Frag) : Sp := fun vs H Q _ => ∃ (p : Addr) (w : Nat) (its : List Item), vs = [.ref p] ∧ NetAt K H p w its ∧ NetOk w its ∧
  ∀ H' q ns, Same H H' → H q = none → ns.Nodup → ns.length ≤ 6 → (∀ n, n ∈ ns ↔ ∃ it ∈ its, it.k = 0 ∧ it.nm = n) → H' q = some (.lst (sL ns)) → Q (.ref q) H'
theorem ty_ins {K : PySem.W.Frag} {mg : Str → Option Value} {G H : Hp} {p : Addr} {it : Item} (T : Txt K mg) (h : ItemAt K G p it) (hp : ∀ o, G p = some o → H p = some o) : TyX K H (.ref p) (.ref (clsOf K it.k)) := by
  obtain ⟨kle, dx, wA, pA, mA, wy, h1, h2, h3, h4, h5⟩ := h
  have c := (clsC T (k := it.k)).ins
  exact .base (.ins (hp _ h1) c.cl c.ha c.hn c.htk c.hm)
/-! Gathered.leaves: 0:self 1:name 2:item -/
abbrev n_Gathered_leaves : List Str := ["self", "name", "item"]
theorem sc_Gathered_leaves : FnScope n_Gathered_leaves ["self"] (defScope s_Gathered_leaves) := ⟨rfl, rfl, rfl, by decide +kernel, rfl, by decide +kernel, by decide +kernel⟩
theorem c_Gathered_leaves (T : Txt K mg) : Cal P w K mg base 1 (He.ma K (He.ga K "Gathered") "leaves") ["self"] (sp_Gathered_leaves K) := by
  refine T.d_Gathered_leaves.cal sc_Gathered_leaves (fun _ _ _ _ _ _ us hl => match us, hl with | [_], _ => rfl) (fun vs H Q E h => ?_) (fun cdv A outer s H vs Q E hr h => ?_)
  · obtain ⟨_, _, _, rfl, _⟩ := h; rfl
  · obtain ⟨p, w, its, rfl, hn, ok, k⟩ := h
    obtain ⟨dx, lA, dA, ips, ops, h1, h2, h3, h4, h5, h6⟩ := hn
    have l6 : ips.length ≤ 6 := len6 ok h5
    have o6 : ops.length ≤ 6 := by rw [h4.length_eq]; exact l6
    have hat : Ats K H ops := fun q hq => h6 q (h4.mem_iff.mp hq)
    have hpd : p ≠ dA := fun z => by rw [z, h3] at h1; cases h1
    refine ⟨_, (pss_one (ps_ret (pe_lock (pe_lc (own := [("name", 1), ("item", 2)]) rfl sc_Gathered_leaves.nd (pi_items (kpe_fld K (pv 0) rfl)) (blkOk_by (N := n_Gathered_leaves) (sc := defScope s_Gathered_leaves) (by decide +kernel)) (fun _ _ _ _ _ => (kpg_tup K (n := 2) rfl (pgs_cons (pg_name (i := 1) sc_Gathered_leaves.nd rfl (Or.inl rfl)) (pgs_cons (pg_name (i := 2) sc_Gathered_leaves.nd rfl (Or.inl rfl)) pgs_nil)))) (fun _ _ _ _ _ => (pts_one (pt_val (pe_callB (kcall_isi K) (by rfl) T.b_isinstance bt_isinstance (pa_cons (pv 2) (pa_cons (pe_glob (v := .ref (He.ga K "Leaf")) rfl T.g_Leaf rfl) pa_nil)))))) (fun _ _ _ _ _ => (pv 1)))))), ?_⟩
    refine ⟨dA, _, h3, trivial, fun od => ?_⟩
    refine ⟨_, rfl, p, _, dx, _, _, rfl, by rw [upd_ne hpd]; exact h1, T.c_Gathered.cl, T.n_own_items, by rw [lk_miss (by decide +kernel), lk_miss (by decide +kernel), lk_hit], dA, od, okv ops, rfl, upd_same, ?_⟩
    refine lcG ops (fun q => decide (q.2.k = 0)) (fun q v _ => v = .str q.2.nm) (by omega) (fun _ _ _ _ _ h => h) ?_ ?_ ?_ ?_
    · intro i H' hi e; exact ⟨e _ _ upd_same, by rw [okv_len]; exact hi⟩
    · intro H' e; exact ⟨e _ _ upd_same, by rw [okv_len]; exact Nat.le_refl _⟩
    · intro i d D x H1 H2 hd hD hD1 e y Ry Rn hy hn
      obtain ⟨T0, kk, v, hx, rfl, nT, rfl⟩ := y
      rw [okv, List.getElem?_map, hd] at hx
      cases hx
      have eT : Same H1 (upd H1 T0 (.tup [kV (Sum.inr d.2.nm), .ref d.1])) := same_upd nT
      refine ⟨T0, _, rfl, .inl (.inl upd_same), rfl, _, _, rfl, _, _, rfl, rfl, rfl, ?_⟩
      have i1 := hat d (List.mem_of_getElem? hd)
      have t1 : TyX K (upd H1 T0 (.tup [kV (Sum.inr d.2.nm), .ref d.1])) (.ref d.1) (.ref (clsOf K d.2.k)) := ty_ins T i1 fun o ho => by
        have hda : d.1 ≠ dA := fun z => by
          rw [z] at i1
          obtain ⟨_, _, _, _, _, _, g1, _⟩ := i1
          rw [h3] at g1; cases g1
        exact eT _ _ (off_le _ _ (e _ _ (by rw [upd_ne hda]; exact ho)))
      refine ⟨_, rfl, _, _, _, _, _, rfl, .own _, t1, kit_Leaf T _, _, rfl, ?_⟩
      by_cases hk : d.2.k = 0
      · rw [decide_eq_true hk]
        exact iteT ⟨_, rfl, hy (decide_eq_true hk) _ _ eT rfl⟩
      · rw [decide_eq_false hk]
        exact iteF (hn (decide_eq_false hk) _ eT)
    intro lG H1 ys nG e hG hp
    refine ⟨e.trans off_le _ _ upd_same, ?_⟩
    have hGa : lG ≠ dA := fun z => by rw [z, upd_same] at nG; cases nG
    have nG' : H lG = none := by rw [upd_ne hGa] at nG; exact nG
    have eG := paired_str (sf := fun q : Addr × Item => q.2.nm) hp
    have nd : (ops.map (·.2.nm)).Nodup := by
      have : (ips.map (·.2.nm)).Nodup := by have := ok.nmU; rwa [h5, List.map_map] at this
      exact (h4.map _).nodup_iff.mpr this
    refine k _ lG _ (unlock h3 (e.trans off_le)) nG' (nd.sublist (List.filter_sublist.map _)) ?_ (fun n => ?_) (by rw [upd_ne hGa, hG, eG])
    · rw [List.length_map]; exact Nat.le_trans (List.length_filter_le _ _) o6
    · rw [List.mem_map, h5]
      constructor
      · rintro ⟨q, hq, rfl⟩
        have := List.mem_filter.mp hq
        exact ⟨q.2, List.mem_map.mpr ⟨q, h4.mem_iff.mp this.1, rfl⟩, of_decide_eq_true this.2, rfl⟩
      · rintro ⟨it, hi, hk, rfl⟩
        obtain ⟨q, hq, rfl⟩ := List.mem_map.mp hi
        exact ⟨q, List.mem_filter.mpr ⟨h4.mem_iff.mpr hq, decide_eq_true hk⟩, rfl⟩

def sp_Gathered_contains (K : PySem.W.Frag) : Sp := fun vs H Q _ => ∃ (p : Addr) (w : Nat) (its : List Item) (it : Item), vs = [.ref p, .str it.nm] ∧ NetAt K H p w its ∧ NetOk w its ∧ it ∈ its ∧ ∀ H', Same H H' → Q (.bl true) H'
/-- an item by its name among what own_items holds -/
theorem own_get {w : Nat} {its : List Item} {ops : List (Addr × Item)} (ok : NetOk w its) (po : List.Perm (ops.map (·.2)) its) {it : Item} (hi : it ∈ its) : ∃ q ∈ ops, q.2 = it ∧ valV (okv ops) (Sum.inr it.nm : Key) = some (V.ref q.1) := by
  obtain ⟨q, hq, rfl⟩ := List.mem_map.mp (po.mem_iff.mpr hi)
  refine ⟨q, hq, rfl, valV_okv ?_ hq⟩
  have : ((ops.map (·.2)).map (·.nm)).Nodup := (po.map _).nodup_iff.mpr ok.nmU
  rwa [List.map_map] at this
/-! Gathered.__contains__: 0:self 1:name -/
abbrev n_Gathered_contains : List Str := ["self", "name"]
theorem sc_Gathered_contains : FnScope n_Gathered_contains ["self", "name"] (defScope s_Gathered_contains) := ⟨rfl, rfl, rfl, by decide +kernel, rfl, by decide +kernel, by decide +kernel⟩
theorem c_Gathered_contains (T : Txt K mg) : Cal P w K mg base 1 (He.ma K (He.ga K "Gathered") "__contains__") ["self", "name"] (sp_Gathered_contains K) := by
  refine T.d_Gathered_contains.cal sc_Gathered_contains (fun _ _ _ _ _ _ us hl => match us, hl with | [_, _], _ => rfl) (fun vs H Q E h => ?_) (fun cdv A outer s H vs Q E hr h => ?_)
  · obtain ⟨_, _, _, _, rfl, _⟩ := h; rfl
  · obtain ⟨p, w, its, it, rfl, hn, ok, hi, k⟩ := h
    have hu := hu_of hr
    refine ⟨_, (pss_one (ps_ret (pe_and (pe_callB (kcall_isi K) (by rfl) T.b_isinstance bt_isinstance (pa_cons (pv 1) (pa_cons (pe_bltn (v := .ty "str") (by rfl) T.b_str bt_str rfl) pa_nil))) (pe_one (pe_cmp (pc_din hu (pv 1) (kpe_fld K (pv 0) rfl))))))), ?_⟩
    refine ⟨_, rfl, _, _, _, _, _, rfl, .ty _, .base (.str _), kit_ss, _, rfl, iteT ?_⟩
    refine ⟨_, rfl, _, rfl, rd_own T hn fun dA ops hd po hat => ?_⟩
    obtain ⟨q, hq, e, hv⟩ := own_get ok po hi
    refine ⟨dA, _, rfl, .inl ⟨_, Sum.inr it.nm, .inl hd, rfl, rfl⟩, ?_⟩
    have : valV (ops.map fun q : Addr × Item => ((Sum.inr q.2.nm : Key), V.ref q.1)) (Sum.inr it.nm : Key) = some (V.ref q.1) := hv
    rw [this]
    exact k _ (Same.refl _)

def sp_Gathered_getitem (K : PySem.W.Frag) : Sp := fun vs H Q _ => ∃ (p : Addr) (w : Nat) (its : List Item) (it : Item), vs = [.ref p, .str it.nm] ∧ NetAt K H p w its ∧ NetOk w its ∧ it ∈ its ∧ ∀ H' q, Same H H' → ItemAt K H' q it → Q (.ref q) H'
/-! Gathered.__getitem__: 0:self 1:name -/
abbrev n_Gathered_getitem : List Str := ["self", "name"]
theorem sc_Gathered_getitem : FnScope n_Gathered_getitem ["self", "name"] (defScope s_Gathered_getitem) := ⟨rfl, rfl, rfl, by decide +kernel, rfl, by decide +kernel, by decide +kernel⟩
theorem c_Gathered_getitem (T : Txt K mg) : Cal P w K mg base 2 (He.ma K (He.ga K "Gathered") "__getitem__") ["self", "name"] (sp_Gathered_getitem K) := by
  refine T.d_Gathered_getitem.cal sc_Gathered_getitem (fun _ _ _ _ _ _ us hl => match us, hl with | [_, _], _ => rfl) (fun vs H Q E h => ?_) (fun cdv A outer s H vs Q E hr h => ?_)
  · obtain ⟨_, _, _, _, rfl, _⟩ := h; rfl
  · obtain ⟨p, w, its, it, rfl, hn, ok, hi, k⟩ := h
    have hu := hu_of hr
    refine ⟨_, (pss_cons (ps_if (pt_cmpR (op_notInOwn (im_Gathered_contains T) (c_Gathered_contains T) (hr.mono (by decide))) (pv 1) (pv 0) (by rfl))
        pss_never pss_nil)
      (pss_one (ps_ret (pe_dget hu (kpe_fld K (pv 0) rfl) (pv 1) (fun _ _ => rfl))))), ?_⟩
    refine ⟨_, rfl, _, rfl, ?_⟩
    obtain ⟨dx, lA, dA, ips, ops, h1, h2, h3, h4, h5, h6⟩ := id hn
    refine ⟨p, _, dx, _, rfl, h1, rfl, p, w, its, it, rfl, hn, ok, hi, fun H1 e1 => ⟨true, rfl, _, rfl, iteF ?_⟩⟩
    refine ⟨_, rfl, rd_own T (hn.mono e1) fun dA ops hd po hat => ?_⟩
    obtain ⟨q, hq, e, hv⟩ := own_get ok po hi
    refine ⟨_, rfl, dA, V.ref q.1, rfl, .inl ⟨_, Sum.inr it.nm, .inl hd, rfl, hv.symm⟩, k _ _ e1 ?_⟩
    rw [← e]; exact hat q hq

def sp_Gathered_want_gatherer (K : PySem.W.Frag) : Sp := fun vs H Q _ => ∃ (p : Addr) (w : Nat) (its : List Item) (it : Item), vs = [.ref p, .str it.nm] ∧ NetAt K H p w its ∧ NetOk w its ∧ it ∈ its ∧ it.k ≠ 0 ∧ ∀ H' q, Same H H' → ItemAt K H' q it → Q (.ref q) H'
/-! Gathered.want_gatherer: 0:self 1:name -/
abbrev n_Gathered_want_gatherer : List Str := ["self", "name"]
theorem sc_Gathered_want_gatherer : FnScope n_Gathered_want_gatherer ["self", "name"] (defScope s_Gathered_want_gatherer) := ⟨rfl, rfl, rfl, by decide +kernel, rfl, by decide +kernel, by decide +kernel⟩
theorem c_Gathered_want_gatherer (T : Txt K mg) : Cal P w K mg base 2 (He.ma K (He.ga K "Gathered") "want_gatherer") ["self", "name"] (sp_Gathered_want_gatherer K) := by
  refine T.d_Gathered_want_gatherer.cal sc_Gathered_want_gatherer (fun _ _ _ _ _ _ us hl => match us, hl with | [_, _], _ => rfl) (fun vs H Q E h => ?_) (fun cdv A outer s H vs Q E hr h => ?_)
  · obtain ⟨_, _, _, _, rfl, _⟩ := h; rfl
  · obtain ⟨p, w, its, it, rfl, hn, ok, hi, hk, k⟩ := h
    have hu := hu_of hr
    refine ⟨_, (pss_cons (ps_if (PW.pt (pw_or (pt_cmpR (op_notInOwn (im_Gathered_contains T) (c_Gathered_contains T) (hr.mono (by decide))) (pv 1) (pv 0) (by rfl)) (pw_or1 (pt_not (pt_val (pe_callB (kcall_isi K) (by rfl) T.b_isinstance bt_isinstance (pa_cons (pe_dget hu (kpe_fld K (pv 0) rfl) (pv 1) (fun _ _ => rfl)) (pa_cons (pe_glob (v := .ref (He.ga K "Gatherer")) rfl T.g_Gatherer rfl) pa_nil))))))))
        pss_never pss_nil)
      (pss_one (ps_ret (pe_dget hu (kpe_fld K (pv 0) rfl) (pv 1) (fun _ _ => rfl))))), ?_⟩
    refine ⟨_, rfl, _, rfl, ?_⟩
    obtain ⟨dx, lA, dA, ips, ops, h1, h2, h3, h4, h5, h6⟩ := id hn
    refine ⟨p, _, dx, _, rfl, h1, rfl, p, w, its, it, rfl, hn, ok, hi, fun H1 e1 => ⟨true, rfl, _, rfl, iteF ?_⟩⟩
    refine ⟨_, rfl, rd_own T (hn.mono e1) fun dA ops hd po hat => ?_⟩
    obtain ⟨q, hq, e, hv⟩ := own_get ok po hi
    have hiq : ItemAt K H1 q.1 it := by rw [← e]; exact hat q hq
    refine ⟨_, rfl, dA, V.ref q.1, rfl, .inl ⟨_, Sum.inr it.nm, .inl hd, rfl, hv.symm⟩, _, _, _, _, _, rfl, .own _, ty_item T hiq, kit_Gatherer T _, _, rfl, ?_⟩
    rw [decide_eq_true hk]
    refine iteF ⟨_, rfl, rd_own T (hn.mono e1) fun dA ops hd po hat => ?_⟩
    obtain ⟨q, hq, e, hv⟩ := own_get ok po hi
    refine ⟨_, rfl, dA, V.ref q.1, rfl, .inl ⟨_, Sum.inr it.nm, .inl hd, rfl, hv.symm⟩, k _ _ e1 ?_⟩
    rw [← e]; exact hat q hq
end
end Cw

/-! CwS -/
set_option Elab.async false
set_option linter.all false
set_option maxRecDepth 100000
set_option maxHeartbeats 4000000
namespace Cw
open PySem PySem.Spec PyProof.Rows L2
section
variable {P : Program} {w : World} {K : PySem.W.Frag} {mg : Str → Option Value} {base : Heap}
/-! sorted by length -/
abbrev n_stretch_length : List Str := ["item"]
theorem sc_stretch_length : FnScope n_stretch_length ["item"] (defScope s_stretch_length) := ⟨rfl, rfl, rfl, by decide +kernel, rfl, by decide +kernel, by decide +kernel⟩
theorem len_key (T : Txt K mg) {A : Around} {stack : List Env} {s : Shared} {H : Hp} {p : Addr} {it : Item} (hr : Room 1 A) (e0 : Env0 P w K mg base A stack s H) (hi : ItemAt K H p it) (hl : it.st.length ≤ 1000) :
    wpAny (model P w) A (call (.ref (He.ga K "stretch_length")) [.ref p]) (PySem.W.KeyPure (.int it.st.length) s) (fun _ _ => False) s := by
  obtain ⟨dvs, fd, hl0, F⟩ := T.d_stretch_length
  have e : dvs = [] := List.length_eq_zero_iff.mp hl0
  subst e
  have hb : Binds K fd ["item"] [] := F.bindsN (fun _ _ _ _ _ _ us hl => match us, hl with | [_], _ => rfl)
  obtain ⟨oc, od, dV, kV, doc, pm, an, cdv, ct, osl, rfl, lk, hcd, _, _⟩ := F.ex
  have S := sc_stretch_length
  have KX : K.In s.heap := e0.mod.kin.keeps fun b o e => (e0.bs b o e).1
  have lim : s.heap.NoLimit := e0.mod.nolimit.keeps fun b o e => (e0.bs b o e).1
  have hb2 := hb s [.ref p] KX rfl
  refine wpAny_call (codeAny_call_function hr.depth (KX _ _ lk) rfl S.co S.gen rfl (PySem.W.codeRec_of KX hcd) (hb2 _ _ _ _ ?_))
  have hkind : ∀ y ∈ (["item"] : List Str).zip [Value.ref p], (defScope s_stretch_length).names.lookup y.1 = some .local ∨ ((defScope s_stretch_length).names.lookup y.1 = some .cell ∧ ((cellsFrom (s.heap.objs.size + 1) (defScope s_stretch_length).names []).lookup y.1).isSome = true) := fun ⟨n, v⟩ hy => by
    rcases S.par n (List.of_mem_zip hy).1 with q | q
    · exact .inl q
    · exact .inr ⟨q, PySem.W.cellsFrom_some _ _ _ (.inl q)⟩
  refine wpAny_newFunctionEnv_cells S.kind hkind fun env he s1 x => ?_
  subst he
  refine ⟨lim.keeps x.toInCall.keep, codeAny_func ?_⟩
  have I : Inv (cxOf CX0 P w K mg base n_stretch_length "stretch_length" (defScope s_stretch_length) (He.ga K "stretch_length") cdv A stack s H E0) [] (L2.start n_stretch_length [.ref p]) H s1 := inv_start S hr.hd e0 rfl (.cons rfl .nil) x
  obtain ⟨h1, tk, rfl, hk⟩ := x.done
  refine wpAny_execs_cons (wpAny_Return_some ?_)
  refine wpAny_Call_Name_kw (ld_blt I (by rfl) T.b_len bt_len ?_)
  refine PyProof.Rows.callWith_builtin1 ?_ rfl rfl
  refine Calls.spliced_cons (attr_of rfl ?_)
  obtain ⟨m, hn, hls⟩ := I.loc
  obtain ⟨u, r, l⟩ := hls 0 "item" (.ref p) rfl rfl (.inl rfl)
  cases r
  rcases l with ⟨hk2, hm⟩ | ⟨hk2, _⟩
  · refine wpAny_Name (wpAny_loadName_local I.ok.kind hk2 hn hm ?_) (by decide)
    obtain ⟨kle, dx, wA, pA, mA, wy, q1, q2, q3, q4, q5⟩ := hi
    obtain ⟨mA2, O, rr, _, _, _⟩ := ins_get I.hok q1
    have cC := clsC T (k := it.k)
    obtain ⟨v, hv, rv⟩ := RelO.some_of (v := V.str it.st) (o := mA2 "stretch") (by rw [← fl_stretch (it := it) (wA := wA) (pA := pA) (mA := mA)]; exact rr "stretch")
    obtain ⟨t, rfl⟩ := rv
    refine get_map I.kIn O (cC.ins.cl.get _) cC.ins.cl.hd cC.n_stretch hv rfl ?_
    refine Calls.spliced_nil ?_
    refine len_str (by omega) ?_
    exact ⟨h1, _, rfl, hk, .int _ _⟩
  · exfalso
    have hl : (cxOf CX0 P w K mg base n_stretch_length "stretch_length" (defScope s_stretch_length) (He.ga K "stretch_length") cdv A stack s H E0).env.kindOf "item" = some .local := rfl
    rw [hl] at hk2
    rcases hk2 with hk2 | hk2 <;> cases hk2

def rSortedLen (K : PySem.W.Frag) : List V → List V → Hp → VK → Prop := fun vs zs H Q => ∃ (a : Addr) (ips : List (Addr × Item)), vs = [.ref a] ∧ zs = [.ref (He.ga K "stretch_length"), .bl true] ∧ H a = some (.lst (refs ips)) ∧ Ats K H ips ∧
  (∀ q ∈ ips, q.2.st.length ≤ 1000) ∧ ips.length ≤ 1000 ∧ ∀ (ops : List (Addr × Item)) (p : Addr), ops.Perm ips → ops.Pairwise (fun x y => y.2.st.length ≤ x.2.st.length) → H p = none → Q (.ref p) (upd H p (.lst (refs ops)))
theorem each_refs : ∀ {ips : List (Addr × Item)} {us : List Value}, Vals (refs ips) us → PySem.W.EachIs (fun (v : Value) (q : Addr × Item) => v = .ref q.1) us ips
  | [], _, .nil => .nil
  | _ :: _, _, .cons r t => .cons r (each_refs t)
theorem refs_each {ips : List (Addr × Item)} {us : List Value} (h : PySem.W.EachIs (fun (v : Value) (q : Addr × Item) => v = .ref q.1) us ips) : Vals (refs ips) us := by
  induction h with
  | nil => exact .nil
  | cons r _ ih => exact .cons r ih
theorem cr_sortedLen {X : Cx} (T : Txt X.K X.mg) (hr : Room 3 X.A) : CallRK X (.builtin "sorted") [Str.ofString "key", Str.ofString "reverse"] (rSortedLen X.K) := by
  intro pins s σ H vs zs us ws Q I r rz h
  obtain ⟨a, ips, rfl, rfl, ha, hat, hs, hl, q⟩ := h
  obtain rfl := Vals.ref1 r
  obtain ⟨w1, w2, rfl, e1, e2⟩ := vals2 rz
  obtain rfl : w1 = Value.ref (He.ga X.K "stretch_length") := e1
  obtain rfl : w2 = Value.bool true := e2
  obtain ⟨its, rv, hli, hz⟩ := I.list (SqL.of ha)
  have e := each_refs rv
  refine PySem.W.sorted_key_data (b := true) (vs := its) (bs := ips) (fun q : Addr × Item => .int (q.2.st.length : Int)) hli.isList e (PySem.W.AllAlike.of fun _ _ => rfl) (PySem.W.Sortable.others fun _ => ⟨(fun z => nomatch z), (fun _ z => nomatch z)⟩) (le_line (by omega)) ?_ (ksk_s2 _ _ _) (fun _ => ksk_l2 _ _ _) (fun _ => ksk_t2 _ _ _) ?_ ?_
  · intro q _
    show X.A.units + 2 + 0 < cLine
    have := hr.un
    omega
  · rintro v x rfl hx h tk kp
    have J : Inv X pins σ H { s with heap := h, toks := tk } := I.kept kp
    exact len_key T (hr.mono (by decide)).in1.in1 J.env0.in1.in1 (hat x hx) (hs x hx)
  · intro out c' h' tk kp hf hD ho eo
    rw [PySem.W.dataGe_int (fun q : Addr × Item => (q.2.st.length : Int))] at eo
    have po := List.mergeSort_perm ips (fun a b : Addr × Item => decide ((b.2.st.length : Int) ≤ (a.2.st.length : Int)))
    have so := List.pairwise_mergeSort (le := fun a b : Addr × Item => decide ((b.2.st.length : Int) ≤ (a.2.st.length : Int))) (fun a b c h1 h2 => by simp only [decide_eq_true_eq] at *; omega) (fun a b => by simp only [Bool.or_eq_true, decide_eq_true_eq]; omega) ips
    generalize ips.mergeSort (fun a b : Addr × Item => decide ((b.2.st.length : Int) ≤ (a.2.st.length : Int))) = ops at eo po so
    have hlen : (refs ops).length ≤ sizeLine := by rw [refs_len, po.length_eq]; exact le_line (by omega)
    refine ⟨.ref _, upd H (s.heap.objs.size + 1) (.lst (refs ops)), I.laid (t' := tk) kp (Nat.le_succ _) ⟨hlen, out, c', refs_each eo, hD⟩, rfl, q ops _ po ?_ (I.hok.fresh (Nat.le_succ _))⟩
    refine so.imp fun {x y} h => ?_
    have := of_decide_eq_true h
    omega
end
end Cw

/-! CwI -/
set_option Elab.async false
set_option linter.all false
set_option maxRecDepth 100000
set_option maxHeartbeats 4000000
namespace Cw
open PySem PySem.Spec PyProof.Rows L2
section
variable {P : Program} {w : World} {K : PySem.W.Frag} {mg : Str → Option Value} {base : Heap}
/-! who stands, who sends, ways -/
theorem some_true (fs : List Str) (m : Str) : (valV (trueD fs) (Sum.inr m : Key)).isSome = decide (m ∈ fs) := by
  rw [valV_true]
  by_cases h : m ∈ fs
  · rw [if_pos h, decide_eq_true h]; rfl
  · rw [if_neg h, decide_eq_false h]; rfl
theorem map_inj {α β : Type} {f : α → β} {l : List α} (nd : (l.map f).Nodup) {x y : α} (hx : x ∈ l) (hy : y ∈ l) (e : f x = f y) : x = y := by
  induction l with
  | nil => simp at hx
  | cons a r ih =>
    rw [List.map_cons, List.nodup_cons] at nd
    rcases List.mem_cons.mp hx with z | z
    · rcases List.mem_cons.mp hy with u | u
      · rw [z, u]
      · exact absurd (by rw [← z, e]; exact List.mem_map.mpr ⟨y, u, rfl⟩) nd.1
    · rcases List.mem_cons.mp hy with u | u
      · exact absurd (by rw [← u, ← e]; exact List.mem_map.mpr ⟨x, z, rfl⟩) nd.1
      · exact ih nd.2 z u
theorem NetOk.inj {w : Nat} {its : List Item} (ok : NetOk w its) {x y : Item} (hx : x ∈ its) (hy : y ∈ its) (e : x.nm = y.nm) : x = y := map_inj ok.nmU hx hy e
theorem NetOk.uniq {w : Nat} {its : List Item} (ok : NetOk w its) : Uniq its := fun _ hx _ hy e => map_inj ok.stU hx hy e
theorem stands_inv {its : List Item} {wd : List Str} {n : Str} (h : Stands its wd n) : ∃ it ∈ its, it.nm = n ∧ ((it.k = 0 ∧ it.nm ∉ wd) ∨ (it.k ≠ 0 ∧ ∃ m ∈ it.mb, Stands its wd m)) := by
  cases h with
  | leaf it hi hk hn => exact ⟨it, hi, rfl, .inl ⟨hk, hn⟩⟩
  | gath it m hi hk hm hs => exact ⟨it, hi, rfl, .inr ⟨hk, m, hm, hs⟩⟩
theorem stands_leaf {w : Nat} {its : List Item} {wd : List Str} (ok : NetOk w its) {it : Item} (hi : it ∈ its) (hk : it.k = 0) : Stands its wd it.nm ↔ it.nm ∉ wd := by
  constructor
  · intro h
    obtain ⟨x, hx, e, g⟩ := stands_inv h
    rw [ok.inj hx hi e] at g
    rcases g with g | g
    · exact g.2
    · exact absurd hk g.1
  · exact .leaf it hi hk
theorem stands_gath {w : Nat} {its : List Item} {wd : List Str} (ok : NetOk w its) {it : Item} (hi : it ∈ its) (hk : it.k ≠ 0) : Stands its wd it.nm ↔ ∃ m ∈ it.mb, Stands its wd m := by
  constructor
  · intro h
    obtain ⟨x, hx, e, g⟩ := stands_inv h
    rw [ok.inj hx hi e] at g
    rcases g with g | g
    · exact absurd g.1 hk
    · exact g.2
  · rintro ⟨m, hm, hs⟩
    exact .gath it m hi hk hm hs
theorem longer_before {its : List Item} {ops : List (Addr × Item)} (po : List.Perm (ops.map (·.2)) its) (so : ops.Pairwise (fun x y => y.2.st.length ≤ x.2.st.length)) {i : Nat} {d : Addr × Item} (hd : ops[i]? = some d) {x : Item} (hx : x ∈ its) (hl : d.2.st.length < x.st.length) :
    ∃ q ∈ ops.take i, q.2 = x := by
  obtain ⟨q, hq, e⟩ := List.mem_map.mp (po.mem_iff.mpr hx)
  obtain ⟨j, hj, ej⟩ := List.mem_iff_getElem.mp hq
  have hi := (List.getElem?_eq_some_iff.mp hd)
  obtain ⟨hi1, hi2⟩ := hi
  rcases Nat.lt_or_ge j i with h | h
  · refine ⟨q, ?_, e⟩
    rw [← ej]
    exact List.mem_take_iff_getElem.mpr ⟨j, by omega, rfl⟩
  · exfalso
    rcases Nat.lt_or_ge i j with h2 | h2
    · have := List.pairwise_iff_getElem.mp so i j hi1 hj h2
      rw [ej, hi2, e] at this
      omega
    · have : i = j := by omega
      subst this
      rw [ej] at hi2
      rw [← hi2, e] at hl
      omega
theorem rd_toldS {K : PySem.W.Frag} {mg : Str → Option Value} {G H : Hp} {p : Addr} {w : Nat} {its : List Item} {R : V → Prop} (T : Txt K mg) (h : NetAt K G p w its) (e : Same G H) (q : ∀ (lA : Addr) (ips : List (Addr × Item)), G lA = some (.lst (refs ips)) → its = ips.map (·.2) → Ats K G ips → R (.ref lA)) :
    ∃ a C dx fs v, V.ref p = .ref a ∧ H a = some (.ins C dx fs) ∧ Cls K C ∧ NoAttr K C "told_items" ∧ fs.lookup ("told_items" : Str) = some v ∧ R v := by
  obtain ⟨dx, lA, dA, ips, ops, h1, h2, h3, h4, h5, h6⟩ := h
  exact ⟨p, _, dx, _, _, rfl, e _ _ h1, T.c_Gathered.cl, T.n_told_items, by rw [lk_miss (by decide +kernel), lk_hit], q lA ips h2 h5 h6⟩
def sp_standing_names (K : PySem.W.Frag) : Sp := fun vs H Q _ => ∃ (p a : Addr) (w : Nat) (its : List Item) (wd : List Str), vs = [.ref p, .ref a] ∧ NetAt K H p w its ∧ NetOk w its ∧ H a = some (.lst (sL wd)) ∧
  ∀ H' q fs, Same H H' → H q = none → H' q = some (.dK (trueD fs)) → (∀ n, n ∈ fs ↔ Stands its wd n) → Q (.ref q) H'
/-! standing_names: 0:gathered 1:withdrawn *2:found 3:item 4:is_standing 5:name -/
abbrev n_standing_names : List Str := ["gathered", "withdrawn", "found", "item", "is_standing", "name"]
theorem sc_standing_names : FnScope n_standing_names ["gathered", "withdrawn"] (defScope s_standing_names) := ⟨rfl, rfl, rfl, by decide +kernel, rfl, by decide +kernel, by decide +kernel⟩
theorem c_standing_names (T : Txt K mg) : Cal P w K mg base 5 (He.ga K "standing_names") ["gathered", "withdrawn"] (sp_standing_names K) := by
  refine T.d_standing_names.cal sc_standing_names (fun _ _ _ _ _ _ us hl => match us, hl with | [_, _], _ => rfl) (fun vs H Q E h => ?_) (fun cdv A outer s H vs Q E hr h => ?_)
  · obtain ⟨_, _, _, _, _, rfl, _⟩ := h; rfl
  · obtain ⟨p, a, w, its, wd, rfl, hn, ok, ha, k⟩ := h
    have hu := hu_of hr
    refine ⟨_, (pss_cons (ps_set (i := 2) sc_standing_names.nd rfl (Or.inr rfl) pe_dnewK)
      (pss_cons (ps_for PassesOwn.never rfl (kpi_list K (pe_callBK (cr_sortedLen T (hr.mono (by decide))) (by rfl) T.b_sorted bt_sorted (pa_cons (kpe_fld K (pv 0) rfl) pa_nil) (pk_cons (pe_glob (v := .ref (He.ga K "stretch_length")) rfl T.g_stretch_length rfl) (pk_cons pe_bl pk_nil)))) (pg_name (i := 3) sc_standing_names.nd rfl (Or.inl rfl))
        (pss_cons (ps_if (pt_val (pe_callB (kcall_isi K) (by rfl) T.b_isinstance bt_isinstance (pa_cons (pv 3) (pa_cons (pe_glob (v := .ref (He.ga K "Leaf")) rfl T.g_Leaf rfl) pa_nil))))
          (pss_one (ps_set (i := 4) sc_standing_names.nd rfl (Or.inl rfl) (pe_cmpR (kop_notIn_seq K) (kpe_fld K (pv 3) rfl) (pv 1) (by rfl)))) (pss_one (ps_set (i := 4) sc_standing_names.nd rfl (Or.inl rfl) (pe_callB (kcr_any K rfl) (by rfl) T.b_any bt_any (pa_cons (pe_lc (own := [("name", 5)]) (g := gName 5) (tt := tYes) rfl sc_standing_names.nd (kpi_list K (kpe_fld K (pv 3) rfl)) (blkOk_by (N := n_standing_names) (sc := defScope s_standing_names) (by decide +kernel)) (fun _ _ _ _ _ => (pg_name (i := 5) sc_standing_names.nd rfl (Or.inl rfl))) (fun _ _ _ _ _ => pts_nil) (fun _ _ _ _ _ => (pe_cmp (pc_din hu (pv 5) (pv 2))))) pa_nil)))))
        (pss_one (ps_if (pt_val (pv 4))
          (pss_one (ps_dput hu (pv 2) (kpe_fld K (pv 3) rfl) pe_bl rfl)) pss_nil))))
      (pss_one (ps_ret (pv 2))))), ?_⟩
    intro D nD
    have eD : Same H (upd H D (.dK [])) := same_upd nD
    refine ⟨_, rfl, rd_toldS T hn eD fun lA ips hA e hat => ?_⟩
    have okq : ∀ q ∈ ips, ItOk q.2 := fun q hq => ok.ok _ (by rw [e]; exact List.mem_map.mpr ⟨q, hq, rfl⟩)
    have l6 := len6 ok e
    refine ⟨lA, ips, rfl, rfl, eD _ _ hA, hat.mono eD, fun q hq => Nat.le_trans (okq q hq).stl (by show (100 : Nat) ≤ 1000; decide), by omega, fun ops q po so nq => ?_⟩
    have poi : List.Perm (ops.map (·.2)) its := by rw [e]; exact po.map _
    have oin : ∀ o ∈ ops, o.2 ∈ its := fun o ho => poi.mem_iff.mp (List.mem_map.mpr ⟨o, ho, rfl⟩)
    have ho6 : ops.length ≤ 6 := by rw [po.length_eq]; exact l6
    have eq1 : Same H (upd (upd H D (.dK [])) q (.lst (refs ops))) := eD.trans (same_upd nq)
    have hato : Ats K H ops := fun o ho => hat o (po.mem_iff.mp ho)
    have hqq : (upd (upd H D (.dK [])) q (.lst (refs ops))) q = some (.lst (refs ops)) := upd_same
    have hqD : (upd (upd H D (.dK [])) q (.lst (refs ops))) D = some (.dK (trueD [])) := same_upd nq _ _ upd_same
    generalize upd (upd H D (.dK [])) q (.lst (refs ops)) = H1 at eq1 hqq hqD ⊢
    have hDq : D ≠ q := fun z => by rw [z, hqq] at hqD; cases hqD
    refine ⟨q, rfl, ⟨_, SqL.of hqq⟩, ?_⟩
    refine forG ops.length (fun i σ H' => Same H H' ∧ But D H1 H' ∧ (∃ fs, H' D = some (.dK (trueD fs)) ∧ fs.length ≤ i ∧ ∀ n, n ∈ fs ↔ ∃ o ∈ ops.take i, o.2.nm = n ∧ Stands its wd n) ∧
      ∃ u v x, σ = [some (.ref p), some (.ref a), some (.ref D), u, v, x]) ⟨eq1, but_refl, ⟨[], hqD, Nat.zero_le _, by simp⟩, _, _, _, rfl⟩ ?_ ?_ ?_ ?_
    · rintro i σ H' hi ⟨_, eb, _⟩; exact itl_go (SqL.of (eb _ _ hDq.symm hqq)) (by rw [refs_len]; exact hi)
    · rintro σ H' ⟨_, eb, _⟩; exact itl_stop (SqL.of (eb _ _ hDq.symm hqq)) (refs_len _)
    · rintro i x σ H2 H3 hi ⟨e2, eb, ⟨fs, hD, lf, mf⟩, u, v, y, rfl⟩ ⟨rfl, hx⟩
      obtain ⟨d, hd⟩ : ∃ d, ops[i]? = some d := ⟨_, List.getElem?_eq_getElem hi⟩
      have hx' := hx _ (SqL.of (eb _ _ hDq.symm hqq))
      rw [refs, List.getElem?_map, hd] at hx'
      cases hx'
      have dm := List.mem_of_getElem? hd
      have di := oin d dm
      have dok := okq d (po.mem_iff.mp dm)
      have i3 : ItemAt K H3 d.1 d.2 := (hato d dm).mono e2
      have hmem : ∀ n, (∃ o ∈ ops.take (i + 1), o.2.nm = n ∧ Stands its wd n) ↔ n ∈ fs ∨ (d.2.nm = n ∧ Stands its wd n) := fun n => by
        rw [mf, List.take_add_one, hd]
        simp only [Option.toList_some, List.mem_append, List.mem_singleton]
        constructor
        · rintro ⟨o, ho | rfl, r⟩
          · exact .inl ⟨o, ho, r⟩
          · exact .inr r
        · rintro (⟨o, ho, r⟩ | r)
          · exact ⟨o, .inl ho, r⟩
          · exact ⟨d, .inr rfl, r⟩
      have fin1 : ∀ H4, Same H3 H4 → Stands its wd d.2.nm → Same H (upd H4 D (.dK (trueD (addN fs d.2.nm)))) ∧ But D H1 (upd H4 D (.dK (trueD (addN fs d.2.nm)))) ∧
          ∃ gs, (upd H4 D (.dK (trueD (addN fs d.2.nm)))) D = some (.dK (trueD gs)) ∧ gs.length ≤ i + 1 ∧ ∀ n, n ∈ gs ↔ ∃ o ∈ ops.take (i + 1), o.2.nm = n ∧ Stands its wd n := fun H4 e4 st =>
        ⟨same_mut (e2.trans e4) nD, (eb.same e4).set, _, upd_same, by have := addN_len fs d.2.nm; omega, fun n => by
          rw [hmem, addN_mem]
          constructor
          · rintro (h | h)
            · exact .inl h
            · exact .inr ⟨h.symm, by rw [h]; exact st⟩
          · rintro (h | h)
            · exact .inl h
            · exact .inr h.1.symm⟩
      have fin0 : ∀ H4, Same H3 H4 → ¬ Stands its wd d.2.nm → Same H H4 ∧ But D H1 H4 ∧ ∃ gs, H4 D = some (.dK (trueD gs)) ∧ gs.length ≤ i + 1 ∧ ∀ n, n ∈ gs ↔ ∃ o ∈ ops.take (i + 1), o.2.nm = n ∧ Stands its wd n := fun H4 e4 st =>
        ⟨e2.trans e4, eb.same e4, fs, e4 _ _ hD, by omega, fun n => by
          rw [hmem]
          constructor
          · exact .inl
          · rintro (h | h)
            · exact h
            · exact absurd (by rw [h.1]; exact h.2) st⟩
      refine ⟨_, rfl, _, _, _, _, _, rfl, .own _, ty_item T i3, kit_Leaf T _, _, rfl, ?_⟩
      by_cases hk : d.2.k = 0
      · rw [decide_eq_true hk]
        refine iteT ⟨_, rfl, rd_name T i3 ⟨_, rfl, a, _, rfl, .inl (SqL.of (e2 _ _ ha)), rfl, flat_str _, _, rfl, _, rfl, ?_⟩⟩
        rw [if_pos rfl, inV_str]
        by_cases hw : d.2.nm ∈ wd
        · rw [List.contains_iff_mem.mpr hw]
          obtain ⟨g1, g2, g3⟩ := fin0 H3 (Same.refl _) fun z => (stands_leaf ok di hk).mp z hw
          exact iteF ⟨g1, g2, g3, _, _, _, rfl⟩
        · have : wd.contains d.2.nm = false := by
            rw [Bool.eq_false_iff]; exact fun z => hw (List.contains_iff_mem.mp z)
          rw [this]
          obtain ⟨g1, g2, g3⟩ := fin1 H3 (Same.refl _) ((stands_leaf ok di hk).mpr hw)
          refine iteT ⟨_, rfl, _, rfl, rd_name T i3 ⟨D, _, rfl, .inl ⟨_, Sum.inr d.2.nm, hD, rfl, by rw [trueD_len]; exact lt_line (by omega), rfl⟩, ?_⟩⟩
          rw [put_true]
          exact ⟨g1, g2, g3, _, _, _, rfl⟩
      · rw [decide_eq_false hk]
        refine iteF ⟨_, rfl, rd_membersS T (hato d dm) e2 hk fun mA hmA => ⟨mA, rfl, ⟨_, SqL.of (e2 _ _ hmA)⟩, ?_⟩⟩
        have hmA3 := e2 _ _ hmA
        have mbl : d.2.mb.length ≤ 10 := (dok.mb hk).2.1
        refine lcY d.2.mb (fun m v _ => v = .bl (decide (m ∈ fs))) (by omega) (fun _ _ _ _ _ h => h) ?_ ?_ ?_ ?_
        · intro i H' hi e; exact itl_go (SqL.of (e _ _ hmA3)) (by rw [sL_len]; exact hi)
        · intro H' e; exact itl_stop (SqL.of (e _ _ hmA3)) (sL_len _)
        · intro j m D2 x H4 H5 hm hD2 hD3 e4 yy Ry Rn hy
          obtain ⟨rfl, hx⟩ := yy
          have hx' := hx _ (SqL.of (off_le _ _ (e4 _ _ hmA3)))
          rw [sL, List.getElem?_map, hm] at hx'
          cases hx'
          refine ⟨rfl, _, rfl, _, rfl, D, _, rfl, .inl ⟨_, Sum.inr m, .inl (off_le _ _ (e4 _ _ hD)), rfl, rfl⟩, ?_⟩
          rw [some_true]
          exact hy _ _ (Same.refl _) rfl
        · intro D2 H4 ys nD2 e4 hD2 hp
          have ey := paired_bl (bf := fun m => decide (m ∈ fs)) hp
          have s4 : Same H3 H4 := e4.trans off_le
          refine ⟨D2, _, rfl, SqL.of (by rw [hD2, ey]), _, rfl, _, rfl, ?_⟩
          have hst : ((d.2.mb.map fun m => decide (m ∈ fs)).any id = true) ↔ Stands its wd d.2.nm := by
            rw [stands_gath ok di hk, List.any_map, List.any_eq_true]
            constructor
            · rintro ⟨m, hm, h⟩
              obtain ⟨_, _, _, r⟩ := (mf m).mp (of_decide_eq_true h)
              exact ⟨m, hm, r⟩
            · rintro ⟨m, hm, r⟩
              obtain ⟨x, hx, ex, rx⟩ := ok.mem d.2 di hk m hm
              obtain ⟨o, ho, eo⟩ := longer_before poi so hd hx rx.1
              exact ⟨m, hm, decide_eq_true ((mf m).mpr ⟨o, ho, by rw [eo]; exact ex, r⟩)⟩
          cases hb : (d.2.mb.map fun m => decide (m ∈ fs)).any id with
          | false =>
            obtain ⟨g1, g2, g3⟩ := fin0 H4 s4 fun z => by rw [hst.mpr z] at hb; cases hb
            exact iteF ⟨g1, g2, g3, _, _, _, rfl⟩
          | true =>
            obtain ⟨g1, g2, g3⟩ := fin1 H4 s4 (hst.mp hb)
            refine iteT ⟨_, rfl, _, rfl, rd_name T (i3.mono s4) ⟨D, _, rfl, .inl ⟨_, Sum.inr d.2.nm, s4 _ _ hD, rfl, by rw [trueD_len]; exact lt_line (by omega), rfl⟩, ?_⟩⟩
            rw [put_true]
            exact ⟨g1, g2, g3, _, _, _, rfl⟩
    · rintro σ H' ⟨e2, eb, ⟨fs, hD, lf, mf⟩, u, v, y, rfl⟩
      refine ⟨_, rfl, k H' D fs e2 nD hD fun n => ?_⟩
      rw [mf, List.take_length]
      constructor
      · rintro ⟨_, _, _, h⟩; exact h
      · intro h
        obtain ⟨it, hi, en, _⟩ := stands_inv h
        obtain ⟨o, ho, e2⟩ := List.mem_map.mp (poi.mem_iff.mpr hi)
        exact ⟨o, ho, by rw [e2]; exact en, h⟩

def sp_does_lack (K : PySem.W.Frag) : Sp := fun vs H Q _ => ∃ (p : Addr) (it : Item) (h : Str), vs = [.ref p, .str h] ∧ ItemAt K H p it ∧ (lack it h → ∀ H', Same H H' → Q (.bl true) H') ∧ (¬ lack it h → ∀ H', Same H H' → Q (.bl false) H')
/-! does_lack: 0:item 1:hop -/
abbrev n_does_lack : List Str := ["item", "hop"]
theorem sc_does_lack : FnScope n_does_lack ["item", "hop"] (defScope s_does_lack) := ⟨rfl, rfl, rfl, by decide +kernel, rfl, by decide +kernel, by decide +kernel⟩
theorem c_does_lack (T : Txt K mg) : Cal P w K mg base 1 (He.ga K "does_lack") ["item", "hop"] (sp_does_lack K) := by
  refine T.d_does_lack.cal sc_does_lack (fun _ _ _ _ _ _ us hl => match us, hl with | [_, _], _ => rfl) (fun vs H Q E h => ?_) (fun cdv A outer s H vs Q E hr h => ?_)
  · obtain ⟨_, _, _, rfl, _⟩ := h; rfl
  · obtain ⟨p, it, h, rfl, hi, k1, k0⟩ := h
    refine ⟨_, (pss_one (ps_ret (pe_and (pe_cmpR op_eq (kpe_fld K (pv 0) rfl) (pv 1) (nomark _)) (pe_and (pe_callB (kcall_isi K) (by rfl) T.b_isinstance bt_isinstance (pa_cons (pv 0) (pa_cons (pe_glob (v := .ref (He.ga K "Gatherer")) rfl T.g_Gatherer rfl) pa_nil))) (pe_one (pe_not (pe_callB (kcall_isi K) (by rfl) T.b_isinstance bt_isinstance (pa_cons (pv 0) (pa_cons (pe_glob (v := .ref (He.ga K "Closed")) rfl T.g_Closed rfl) pa_nil))))))))), ?_⟩
    refine ⟨_, rfl, rd_keeper T hi ⟨_, rfl, rfl, _, rfl, ?_⟩⟩
    by_cases e : it.kp = h
    · rw [decide_eq_true (by rw [e])]
      refine iteT ⟨_, rfl, _, _, _, _, _, rfl, .own _, ty_item T hi, kit_Gatherer T _, _, rfl, ?_⟩
      by_cases hk : it.k = 0
      · rw [decide_eq_false (fun z => z hk)]
        exact iteF (k0 (fun z => by have := z.2; omega) _ (Same.refl _))
      · rw [decide_eq_true hk]
        refine iteT ⟨_, rfl, _, _, _, _, _, rfl, .own _, ty_item T hi, kit_Closed T hi.kle, _, rfl, ?_⟩
        by_cases h2 : it.k = 2
        · rw [decide_eq_true h2]
          exact k0 (fun z => by have := z.2; omega) _ (Same.refl _)
        · rw [decide_eq_false h2]
          have := hi.kle
          exact k1 ⟨e, by omega⟩ _ (Same.refl _)
    · rw [decide_eq_false (by intro z; injection z with z; exact e z)]
      exact iteF (k0 (fun z => e z.1) _ (Same.refl _))

def BestV (K : PySem.W.Frag) (H : Hp) (v : V) : Option Item → Prop
  | none => v = .non
  | some it => ∃ q, v = .ref q ∧ ItemAt K H q it
theorem BestV.mono {K : PySem.W.Frag} {H H' : Hp} {v : V} : ∀ {o : Option Item}, BestV K H v o → Same H H' → BestV K H' v o
  | none, h, _ => h
  | some _, ⟨q, e, h⟩, s => ⟨q, e, h.mono s⟩
theorem best_take1 {c : Item → Prop} {its : List Item} {i : Nat} {x : Item} (h : its[i]? = some x) : (its.take (i + 1)).foldl (bestGo c) none = bestGo c ((its.take i).foldl (bestGo c) none) x := by
  rw [List.take_add_one, h, List.foldl_append]; rfl
theorem bestGo_yes {c : Item → Prop} {b : Option Item} {x : Item} (h : c x ∧ ∀ y, b = some y → y.st.length < x.st.length) : bestGo c b x = some x := by unfold bestGo; rw [if_pos h]
theorem bestGo_no {c : Item → Prop} {b : Option Item} {x : Item} (h : ¬ (c x ∧ ∀ y, b = some y → y.st.length < x.st.length)) : bestGo c b x = b := by unfold bestGo; rw [if_neg h]
def sp_item_for (K : PySem.W.Frag) : Sp := fun vs H Q _ => ∃ (p d : Addr) (w : Nat) (its : List Item) (h a : Str) (fs wd : List Str), vs = [.ref p, .str h, .str a, .ref d] ∧ NetAt K H p w its ∧ NetOk w its ∧ H d = some (.dK (trueD fs)) ∧ (∀ n, n ∈ fs ↔ Stands its wd n) ∧
  ∀ H' v, Same H H' → BestV K H' v (best (cand its wd a h) its) → Q v H'
/-! item_for: 0:gathered 1:hop 2:address 3:standing 4:best 5:item 6:is_open -/
abbrev n_item_for : List Str := ["gathered", "hop", "address", "standing", "best", "item", "is_open"]
theorem sc_item_for : FnScope n_item_for ["gathered", "hop", "address", "standing"] (defScope s_item_for) := ⟨rfl, rfl, rfl, by decide +kernel, rfl, by decide +kernel, by decide +kernel⟩
theorem c_item_for (T : Txt K mg) : Cal P w K mg base 2 (He.ga K "item_for") ["gathered", "hop", "address", "standing"] (sp_item_for K) := by
  refine T.d_item_for.cal sc_item_for (fun _ _ _ _ _ _ us hl => match us, hl with | [_, _, _, _], _ => rfl) (fun vs H Q E h => ?_) (fun cdv A outer s H vs Q E hr h => ?_)
  · obtain ⟨_, _, _, _, _, _, _, _, rfl, _⟩ := h; rfl
  · obtain ⟨p, D, w, its, h, a, fs, wd, rfl, hn, ok, hD, hfs, k⟩ := h
    have hu := hu_of hr
    refine ⟨_, (pss_cons (ps_set (i := 4) sc_item_for.nd rfl (Or.inl rfl) pe_non)
      (pss_cons (ps_for PassesOwn.never rfl (kpi_list K (kpe_fld K (pv 0) rfl)) (pg_name (i := 5) sc_item_for.nd rfl (Or.inl rfl))
        (pss_cons (ps_set (i := 6) sc_item_for.nd rfl (Or.inl rfl) (pe_and (pe_cmp (pc_din hu (kpe_fld K (pv 5) rfl) (pv 3))) (pe_and (pe_sw (pv 2) (kpe_fld K (pv 5) rfl)) (pe_one (pe_cmpR (kop_in_seq K) (pv 1) (pe_met0 (pv 5) (im_Item_sees T) (c_Item_sees T) (hr.mono (by decide))) (by rfl))))))
        (pss_one (ps_if (PW.pt (pw_and (pt_val (pv 6)) (pw_and (pt_not (pt_val (pe_cal (c_does_lack T) (hr.mono (by decide)) (by rfl) T.g_does_lack (pa_cons (pv 5) (pa_cons (pv 1) pa_nil))))) (pw_and1 (PW.pt (pw_or (pt_cmpR op_isN (pv 4) pe_non (nomark _)) (pw_or1 (pt_cmpR op_gt (pe_callB call_len_str (by rfl) T.b_len bt_len (pa_cons (kpe_fld K (pv 5) rfl) pa_nil)) (pe_callB call_len_str (by rfl) T.b_len bt_len (pa_cons (kpe_fld K (pv 4) rfl) pa_nil)) (nomark _)))))))))
          (pss_one (ps_set (i := 4) sc_item_for.nd rfl (Or.inl rfl) (pv 5))) pss_nil))))
      (pss_one (ps_ret (pv 4))))), ?_⟩
    refine ⟨_, rfl, rd_toldS T hn (Same.refl H) fun lA ips hA e hat => ⟨lA, rfl, ⟨_, SqL.of hA⟩, ?_⟩⟩
    have okq : ∀ q ∈ ips, ItOk q.2 := fun q hq => ok.ok _ (by rw [e]; exact List.mem_map.mpr ⟨q, hq, rfl⟩)
    refine forG ips.length (fun i σ H' => Same H H' ∧ ∃ v u x, BestV K H' v ((its.take i).foldl (bestGo (cand its wd a h)) none) ∧ σ = [some (.ref p), some (.str h), some (.str a), some (.ref D), some v, u, x]) ⟨Same.refl _, .non, none, none, rfl, rfl⟩ ?_ ?_ ?_ ?_
    · rintro i σ H' hi ⟨e1, _⟩; exact itl_go (SqL.of (e1 _ _ hA)) (by rw [refs_len]; exact hi)
    · rintro σ H' ⟨e1, _⟩; exact itl_stop (SqL.of (e1 _ _ hA)) (refs_len _)
    · rintro i x σ H2 H3 hi ⟨e2, v, u, y, hv, rfl⟩ ⟨rfl, hx⟩
      obtain ⟨d, hd⟩ : ∃ d, ips[i]? = some d := ⟨_, List.getElem?_eq_getElem hi⟩
      have hx' := hx _ (SqL.of (e2 _ _ hA))
      rw [refs, List.getElem?_map, hd] at hx'
      cases hx'
      have dm := List.mem_of_getElem? hd
      have dok := okq d dm
      have i3 := (hat d dm).mono e2
      have hd2 : its[i]? = some d.2 := by rw [e, List.getElem?_map, hd]; rfl
      have stay : ∀ H4, Same H3 H4 → ¬ (cand its wd a h d.2 ∧ ∀ y, (its.take i).foldl (bestGo (cand its wd a h)) none = some y → y.st.length < d.2.st.length) → Same H H4 ∧ BestV K H4 v ((its.take (i + 1)).foldl (bestGo (cand its wd a h)) none) := fun H4 e4 hno =>
        ⟨e2.trans e4, by rw [best_take1 hd2, bestGo_no hno]; exact hv.mono e4⟩
      have take : ∀ H4, Same H3 H4 → (cand its wd a h d.2 ∧ ∀ y, (its.take i).foldl (bestGo (cand its wd a h)) none = some y → y.st.length < d.2.st.length) → Same H H4 ∧ BestV K H4 (.ref d.1) ((its.take (i + 1)).foldl (bestGo (cand its wd a h)) none) := fun H4 e4 hy =>
        ⟨e2.trans e4, by rw [best_take1 hd2, bestGo_yes hy]; exact ⟨d.1, rfl, i3.mono e4⟩⟩
      refine ⟨_, rfl, rd_name T i3 ⟨_, rfl, D, _, rfl, .inl ⟨_, Sum.inr d.2.nm, .inl (e2 _ _ hD), rfl, rfl⟩, ?_⟩⟩
      rw [some_true]
      by_cases hs : d.2.nm ∈ fs
      case neg =>
        rw [decide_eq_false hs]
        obtain ⟨g1, g2⟩ := stay H3 (Same.refl _) fun z => hs ((hfs _).mpr z.1.1.1)
        exact ⟨_, rfl, iteF ⟨_, rfl, _, rfl, iteF ⟨g1, _, _, _, g2, rfl⟩⟩⟩
      rw [decide_eq_true hs]
      refine ⟨_, rfl, iteT ⟨_, rfl, ⟨_, rfl⟩, _, rfl, rd_stretch T i3 ⟨_, _, rfl, rfl, ?_⟩⟩⟩
      rw [sw_dec]
      by_cases hp : pre d.2.st a
      case neg =>
        rw [decide_eq_false hp]
        obtain ⟨g1, g2⟩ := stay H3 (Same.refl _) fun z => hp z.1.1.2.1
        exact ⟨_, rfl, iteF ⟨_, rfl, _, rfl, iteF ⟨g1, _, _, _, g2, rfl⟩⟩⟩
      rw [decide_eq_true hp]
      refine ⟨_, rfl, iteT ⟨_, rfl, _, rfl, it_met i3 (by decide +kernel) ⟨d.1, d.2, rfl, i3, dok.way.few, fun H4 q ys e4 nq py hq => ?_⟩⟩⟩
      refine ⟨q, _, rfl, .inl (SqL.of hq), rfl, flat_str _, ?_⟩
      rw [if_neg (by decide), inV_str]
      by_cases hse : sees d.2 h
      case neg =>
        have : ys.contains h = false := by
          rw [Bool.eq_false_iff]
          intro z
          have := py.mem_iff.mp (List.contains_iff_mem.mp z)
          rw [List.mem_append, List.mem_singleton] at this
          exact hse this
        rw [this]
        obtain ⟨g1, g2⟩ := stay H4 e4 fun z => hse z.1.1.2.2
        exact ⟨_, rfl, _, rfl, iteF ⟨g1, _, _, _, g2, rfl⟩⟩
      have : ys.contains h = true := by
        refine List.contains_iff_mem.mpr (py.mem_iff.mpr ?_)
        rw [List.mem_append, List.mem_singleton]
        exact hse
      rw [this]
      have co : Stands its wd d.2.nm ∧ pre d.2.st a ∧ sees d.2 h := ⟨(hfs _).mp hs, hp, hse⟩
      have i4 := i3.mono e4
      refine ⟨_, rfl, _, rfl, iteT ⟨_, rfl, _, rfl, d.1, d.2, h, rfl, i4, fun hl H5 e5 => ?_, fun hl H5 e5 => ?_⟩⟩
      · obtain ⟨g1, g2⟩ := stay H5 (e4.trans e5) fun z => z.1.2 hl
        exact ⟨_, rfl, iteF (iteF ⟨g1, _, _, _, g2, rfl⟩)⟩
      · have e45 := e4.trans e5
        have i5 := i3.mono e45
        refine ⟨_, rfl, iteT ⟨_, rfl, rfl, _, rfl, ?_⟩⟩
        cases ho : (its.take i).foldl (bestGo (cand its wd a h)) none with
        | none =>
          rw [ho] at hv
          rw [show v = .non from hv, decide_eq_true rfl]
          obtain ⟨g1, g2⟩ := take H5 e45 ⟨⟨co, hl⟩, fun y hy => by rw [ho] at hy; cases hy⟩
          exact iteT (iteT ⟨_, rfl, g1, _, _, _, g2, rfl⟩)
        | some bx =>
          rw [ho] at hv
          obtain ⟨bq, rfl, hb⟩ := hv
          have bm : bx ∈ its := by
            have := best_take (c := cand its wd a h) (its := its) i
            rw [ho] at this
            exact List.mem_of_mem_take this.1
          rw [decide_eq_false (fun z => nomatch z)]
          have hb5 := hb.mono e45
          refine iteF ⟨_, rfl, rd_stretch T i5 ⟨_, rfl, le_line (by have := dok.stl; omega), _, rfl, rd_stretch T hb5 ⟨_, rfl, le_line (by have := (ok.ok bx bm).stl; omega), _, _, rfl, rfl, _, rfl, ?_⟩⟩⟩
          by_cases hlt : bx.st.length < d.2.st.length
          · rw [decide_eq_true (by omega)]
            obtain ⟨g1, g2⟩ := take H5 e45 ⟨⟨co, hl⟩, fun y hy => by rw [ho] at hy; cases hy; exact hlt⟩
            exact iteT ⟨_, rfl, g1, _, _, _, g2, rfl⟩
          · rw [decide_eq_false (by omega)]
            obtain ⟨g1, g2⟩ := stay H5 e45 fun z => hlt (z.2 bx ho)
            exact iteF ⟨g1, _, _, _, g2, rfl⟩
    · rintro σ H' ⟨e1, v, u, y, hv, rfl⟩
      refine ⟨_, rfl, k H' v e1 ?_⟩
      have : its.take ips.length = its := by rw [show ips.length = its.length by rw [e, List.length_map], List.take_length]
      rw [this] at hv
      exact hv
end
end Cw

/-! CwJ -/
set_option Elab.async false
set_option linter.all false
set_option maxRecDepth 100000
set_option maxHeartbeats 4000000
namespace Cw
open PySem PySem.Spec PyProof.Rows L2
section
variable {P : Program} {w : World} {K : PySem.W.Frag} {mg : Str → Option Value} {base : Heap}
/-! steps and ways -/
def sp_step_under (K : PySem.W.Frag) : Sp := fun vs H Q _ => ∃ (p d : Addr) (w : Nat) (its : List Item) (h a : Str) (fs wd : List Str), vs = [.ref p, .str h, .str a, .ref d] ∧ NetAt K H p w its ∧ NetOk w its ∧ H d = some (.dK (trueD fs)) ∧ (∀ n, n ∈ fs ↔ Stands its wd n) ∧
  ∀ H', Same H H' → Q (.str (step its wd a h)) H'
/-! step_under: 0:gathered 1:hop 2:address 3:standing 4:item -/
abbrev n_step_under : List Str := ["gathered", "hop", "address", "standing", "item"]
theorem sc_step_under : FnScope n_step_under ["gathered", "hop", "address", "standing"] (defScope s_step_under) := ⟨rfl, rfl, rfl, by decide +kernel, rfl, by decide +kernel, by decide +kernel⟩
theorem c_step_under (T : Txt K mg) : Cal P w K mg base 3 (He.ga K "step_under") ["gathered", "hop", "address", "standing"] (sp_step_under K) := by
  refine T.d_step_under.cal sc_step_under (fun _ _ _ _ _ _ us hl => match us, hl with | [_, _, _, _], _ => rfl) (fun vs H Q E h => ?_) (fun cdv A outer s H vs Q E hr h => ?_)
  · obtain ⟨_, _, _, _, _, _, _, _, rfl, _⟩ := h; rfl
  · obtain ⟨p, D, w, its, h, a, fs, wd, rfl, hn, ok, hD, hfs, k⟩ := h
    have hu := hu_of hr
    refine ⟨_, (pss_cons (ps_set (i := 4) sc_step_under.nd rfl (Or.inl rfl) (pe_cal (c_item_for T) (hr.mono (by decide)) (by rfl) T.g_item_for (pa_cons (pv 0) (pa_cons (pv 1) (pa_cons (pv 2) (pa_cons (pv 3) pa_nil))))))
      (pss_cons (ps_if (pt_cmpR op_isN (pv 4) pe_non (nomark _))
        (pss_one (ps_ret pe_str)) pss_nil)
      (pss_cons (ps_if (pt_cmpR op_eq (kpe_fld K (pv 4) rfl) (pv 1) (nomark _))
        (pss_one (ps_ret (pe_ifExp (pt_val (pe_callB (kcall_isi K) (by rfl) T.b_isinstance bt_isinstance (pa_cons (pv 4) (pa_cons (pe_glob (v := .ref (He.ga K "Leaf")) rfl T.g_Leaf rfl) pa_nil)))) pe_str pe_str))) pss_nil)
      (pss_one (ps_ret (pe_dget hu (kpe_fld K (pv 4) rfl) (pv 1) (fun _ _ => rfl))))))), ?_⟩
    refine ⟨_, rfl, _, rfl, _, rfl, _, rfl, p, D, w, its, h, a, fs, wd, rfl, hn, ok, hD, hfs, fun H1 v e1 hv => ?_⟩
    have q := best_ok (cand its wd a h) its
    have es : step its wd a h = goal (best (cand its wd a h) its) h := rfl
    refine ⟨_, rfl, rfl, _, rfl, ?_⟩
    cases eb : best (cand its wd a h) its with
    | none =>
      rw [eb] at hv es
      rw [show v = .non from hv, decide_eq_true rfl]
      refine iteT ?_
      have := k H1 e1
      rw [es] at this
      exact this
    | some it =>
      rw [eb] at hv es q
      obtain ⟨pi, rfl, hi⟩ := hv
      obtain ⟨q1, q2, q3⟩ := q
      rw [decide_eq_false (fun z => nomatch z)]
      refine iteF ⟨_, rfl, rd_keeper T hi ⟨_, rfl, rfl, _, rfl, ?_⟩⟩
      by_cases hk : it.kp = h
      · rw [decide_eq_true (by rw [hk])]
        refine iteT ⟨_, rfl, _, _, _, _, _, rfl, .own _, ty_item T hi, kit_Leaf T _, _, rfl, ?_⟩
        have kk := k H1 e1
        rw [es] at kk
        unfold goal at kk
        simp only [hk, if_true] at kk
        by_cases h0 : it.k = 0
        · rw [if_pos h0] at kk
          rw [decide_eq_true h0]
          exact iteT kk
        · rw [if_neg h0] at kk
          rw [decide_eq_false h0]
          exact iteF kk
      · rw [decide_eq_false (by intro z; injection z with z; exact hk z)]
        refine iteF ⟨_, rfl, rd_way T hi fun wA wy pw hw => ?_⟩
        have hm : h ∈ keys it.wy := q2.1.2.2.resolve_right fun z => hk z.symm
        obtain ⟨y, ey, _⟩ := lookup_mem hm
        have kk := k H1 e1
        rw [es] at kk
        unfold goal at kk
        simp only [if_neg hk, ey, Option.getD_some] at kk
        refine ⟨_, rfl, wA, .str y, rfl, .inl ⟨_, Sum.inr h, .inl hw, rfl, ?_⟩, kk⟩
        rw [valV_dk, perm_lookup pw (ok.ok it q1).way.nd h, ey]
        rfl

/-- how a way ends -/
def Ends (f : Str → Str) (ws : List Str) (t : Str) : Prop := ∃ x, ws.getLast? = some x ∧ ((isEnd (f x) ∧ t = f x) ∨ (¬ isEnd (f x) ∧ f x ∈ ws ∧ t = "ring"))
theorem netHops {w : Nat} {its : List Item} (ok : NetOk w its) : ∃ hs : List Str, hs.length ≤ 6 ∧ ∀ wd a h, ¬ isEnd (step its wd a h) → step its wd a h ∈ hs := by
  obtain ⟨hs, h6, hh⟩ := ok.hops
  refine ⟨hs, h6, fun wd a h hn => ?_⟩
  obtain ⟨it, hi, _, _, _, hp⟩ := step_on (fun it hi => (ok.ok it hi).way) hn
  rcases (ok.ok it hi).way.val _ hp with z | z
  · rw [show step its wd a h = it.kp from z]; exact (hh it hi).1
  · exact (hh it hi).2 _ z
theorem end_in (x : Str) : [sHome, sHole].contains x = true ↔ isEnd x := by
  rw [List.contains_iff_mem]
  unfold isEnd
  simp
def sp_way_under (K : PySem.W.Frag) : Sp := fun vs H Q _ => ∃ (p d : Addr) (w : Nat) (its : List Item) (h a : Str) (fs wd : List Str), vs = [.ref p, .str h, .str a, .ref d] ∧ NetAt K H p w its ∧ NetOk w its ∧ H d = some (.dK (trueD fs)) ∧ (∀ n, n ∈ fs ↔ Stands its wd n) ∧
  ∀ H' q l ws t, Same H H' → H' q = some (.tup [.ref l, .str t]) → H' l = some (.lst (sL ws)) → (∃ r, ws = h :: r) → ws.length ≤ 7 → Chain (step its wd a) ws → Ends (step its wd a) ws t → Q (.ref q) H'
/-! way_under: 0:gathered 1:hop 2:address 3:standing 4:way 5:told -/
abbrev n_way_under : List Str := ["gathered", "hop", "address", "standing", "way", "told"]
theorem sc_way_under : FnScope n_way_under ["gathered", "hop", "address", "standing"] (defScope s_way_under) := ⟨rfl, rfl, rfl, by decide +kernel, rfl, by decide +kernel, by decide +kernel⟩
theorem c_way_under (T : Txt K mg) : Cal P w K mg base 4 (He.ga K "way_under") ["gathered", "hop", "address", "standing"] (sp_way_under K) := by
  refine T.d_way_under.cal sc_way_under (fun _ _ _ _ _ _ us hl => match us, hl with | [_, _, _, _], _ => rfl) (fun vs H Q E h => ?_) (fun cdv A outer s H vs Q E hr h => ?_)
  · obtain ⟨_, _, _, _, _, _, _, _, rfl, _⟩ := h; rfl
  · obtain ⟨p, D, w, its, h, a, fs, wd, rfl, hn, ok, hD, hfs, k⟩ := h
    obtain ⟨hs, h6, hh⟩ := netHops ok
    refine ⟨_, (pss_cons (ps_set (i := 4) sc_way_under.nd rfl (Or.inl rfl) (pe_lst (pa_cons (pv 1) pa_nil)))
      (pss_cons (ps_set (i := 5) sc_way_under.nd rfl (Or.inl rfl) (pe_cal (c_step_under T) (hr.mono (by decide)) (by rfl) T.g_step_under (pa_cons (pv 0) (pa_cons (pv 1) (pa_cons (pv 2) (pa_cons (pv 3) pa_nil))))))
      (pss_cons (ps_while PassesOwn.never (PW.pt (pw_and (pt_cmpR (kop_notIn_seq K) (pv 5) (pe_glob (v := .ref (He.ga K "ENDS")) rfl T.g_ENDS rfl) (by rfl)) (pw_and1 (pt_cmpR (kop_notIn_seq K) (pv 5) (pv 4) (by rfl))))) (pss_cons (ps_expr (kpe_bm K PySem.F.plainAttrs_list PySem.F.slot_list_append PySem.F.type_list_append mt_append (pv 4) (pa_cons (pv 5) pa_nil)))
        (pss_one (ps_set (i := 5) sc_way_under.nd rfl (Or.inl rfl) (pe_cal (c_step_under T) (hr.mono (by decide)) (by rfl) T.g_step_under (pa_cons (pv 0) (pa_cons (pv 5) (pa_cons (pv 2) (pa_cons (pv 3) pa_nil)))))))))
      (pss_one (ps_ret (pe_tup (pa_cons (pv 4) (pa_cons (pe_ifExp (pt_cmpR (kop_in_seq K) (pv 5) (pe_glob (v := .ref (He.ga K "ENDS")) rfl T.g_ENDS rfl) (by rfl)) (pv 5) pe_str) pa_nil)))))))), ?_⟩
    refine ⟨_, rfl, le_line (by show (1 : Nat) ≤ 100000; decide), fun l nl => ?_⟩
    have e1 : Same H (upd H l (.lst [V.str h])) := same_upd nl
    refine ⟨_, rfl, _, rfl, _, rfl, _, rfl, p, D, w, its, h, a, fs, wd, rfl, hn.mono e1, ok, e1 _ _ hD, hfs, fun H1 e2 => ?_⟩
    refine ⟨fun m σ H' => Same H H' ∧ ∃ ws x, H' l = some (.lst (sL ws)) ∧ (∃ r, ws = h :: r) ∧ ws.Nodup ∧ (∀ y ∈ ws, y = h ∨ y ∈ hs) ∧ m + ws.length = 7 ∧ Chain (step its wd a) ws ∧ ws.getLast? = some x ∧
      σ = [some (.ref p), some (.str h), some (.str a), some (.ref D), some (.ref l), some (.str (step its wd a x))], ⟨6, e1.trans e2, [h], h, e2 _ _ upd_same, ⟨[], rfl⟩, by simp, by simp, rfl, trivial, rfl, rfl⟩, ?_⟩
    rintro m σ H2 ⟨e3, ws, x, hl, ⟨r, er⟩, nd, hin, hm, ch, hx, rfl⟩
    have kk : ∀ (b : Bool), b = (![sHome, sHole].contains (step its wd a x)) → (b = true ↔ ¬ isEnd (step its wd a x)) := fun b hb => by
      rw [hb, ← end_in]; cases [sHome, sHole].contains (step its wd a x) <;> simp
    refine ⟨_, rfl, _, _, rfl, .inr (T.t_ENDS H2), rfl, flat_str [sHome, sHole], _, rfl, ?_⟩
    rw [if_pos rfl, show inV (.str (step its wd a x)) [V.str "home", V.str "hole"] = [sHome, sHole].contains (step its wd a x) from inV_str (step its wd a x) [sHome, sHole]]
    have leave : ∀ t, Ends (step its wd a) ws t → (if [sHome, sHole].contains (step its wd a x) = true then step its wd a x else "ring") = t → (tTup (tCons (tVar 4) (tCons (tIf (tTest (tOp (rIn K false) (tVar 5) (tC (.ref (He.ga K "ENDS"))))) (tVar 5) (tC (.str "ring"))) tNil)))
        [some (.ref p), some (.str h), some (.str a), some (.ref D), some (.ref l), some (.str (step its wd a x))] H2 Q := fun t he et => by
      refine ⟨_, rfl, _, rfl, _, _, rfl, .inr (T.t_ENDS H2), rfl, flat_str [sHome, sHole], _, rfl, ?_⟩
      rw [if_neg (by decide), show inV (.str (step its wd a x)) [V.str "home", V.str "hole"] = [sHome, sHole].contains (step its wd a x) from inV_str (step its wd a x) [sHome, sHole]]
      cases hc : [sHome, sHole].contains (step its wd a x) with
      | true =>
        rw [hc, if_pos rfl] at et
        subst et
        exact iteT ⟨_, rfl, le_line (by show (2 : Nat) ≤ 100000; decide), fun q nq => k _ q l ws _ (e3.trans (same_upd nq)) upd_same (same_upd nq _ _ hl) ⟨r, er⟩ (by omega) ch he⟩
      | false =>
        rw [hc, if_neg (by decide)] at et
        subst et
        exact iteF ⟨le_line (by show (2 : Nat) ≤ 100000; decide), fun q nq => k _ q l ws _ (e3.trans (same_upd nq)) upd_same (same_upd nq _ _ hl) ⟨r, er⟩ (by omega) ch he⟩
    cases hc : [sHome, sHole].contains (step its wd a x) with
    | true =>
      have hend := (end_in _).mp hc
      exact iteF (iteF (leave _ ⟨x, hx, .inl ⟨hend, rfl⟩⟩ (by rw [hc, if_pos rfl])))
    | false =>
      have hend : ¬ isEnd (step its wd a x) := fun z => by rw [(end_in _).mpr z] at hc; cases hc
      refine iteT ⟨_, rfl, _, rfl, l, _, rfl, .inl (SqL.of hl), rfl, flat_str _, _, rfl, ?_⟩
      rw [if_pos rfl, inV_str]
      by_cases hw : step its wd a x ∈ ws
      · rw [List.contains_iff_mem.mpr hw]
        exact iteF (leave _ ⟨x, hx, .inr ⟨hend, hw, rfl⟩⟩ (by rw [hc, if_neg (by decide)]))
      · have : ws.contains (step its wd a x) = false := by rw [Bool.eq_false_iff]; exact fun z => hw (List.contains_iff_mem.mp z)
        rw [this]
        have hnew := hh wd a x hend
        have nd2 : (ws ++ [step its wd a x]).Nodup := by
          rw [List.nodup_append]
          exact ⟨nd, by simp, fun u hu v hv => by rw [List.mem_singleton.mp hv]; exact fun z => hw (z ▸ hu)⟩
        have hin2 : ∀ y ∈ ws ++ [step its wd a x], y = h ∨ y ∈ hs := fun y hy => by
          rcases List.mem_append.mp hy with hy | hy
          · exact hin y hy
          · rw [List.mem_singleton.mp hy]; exact .inr hnew
        have l7 : (ws ++ [step its wd a x]).length ≤ (h :: hs).length := nodup_le nd2 fun y hy => by
          rcases hin2 y hy with z | z
          · rw [z]; simp
          · exact List.mem_cons_of_mem _ z
        rw [List.length_append, List.length_singleton, List.length_cons] at l7
        refine iteT ⟨fun σ' H' => ∃ m', m' < m ∧ _, fun _ _ z => z, ?_⟩
        refine ⟨_, rfl, .inl ⟨rfl, _, SqL.of hl⟩, _, rfl, l, _, _, rfl, rfl, hl, lt_line (by rw [sL_len]; omega), ?_⟩
        have el : sL ws ++ [V.str (step its wd a x)] = sL (ws ++ [step its wd a x]) := by simp [sL]
        rw [el]
        have e4 : Same H (upd H2 l (.lst (sL (ws ++ [step its wd a x])))) := same_mut e3 nl
        refine ⟨_, rfl, _, rfl, _, rfl, _, rfl, p, D, w, its, step its wd a x, a, fs, wd, rfl, hn.mono e4, ok, e4 _ _ hD, hfs, fun H5 e5 => ?_⟩
        refine ⟨m - 1, by omega, e4.trans e5, ws ++ [step its wd a x], step its wd a x, e5 _ _ upd_same, ⟨r ++ [step its wd a x], by rw [er]; rfl⟩, nd2, hin2, ?_, chain_snoc ch hx rfl hend, by simp, rfl⟩
        rw [List.length_append, List.length_singleton]; omega
end
end Cw

/-! CwL -/
set_option Elab.async false
set_option linter.all false
set_option maxRecDepth 100000
set_option maxHeartbeats 4000000
namespace Cw
open PySem PySem.Spec PyProof.Rows L2
section
variable {P : Program} {w : World} {K : PySem.W.Frag} {mg : Str → Option Value} {base : Heap}
/-! questions -/
def WdOk (its : List Item) (wd : List Str) : Prop := wd.Nodup ∧ wd.length ≤ 100 ∧ ∀ n ∈ wd, ∃ it ∈ its, it.k = 0 ∧ it.nm = n
def sp_Gathered_want_withdrawn (K : PySem.W.Frag) : Sp := fun vs H Q _ => ∃ (p a : Addr) (w : Nat) (its : List Item) (wd : List Str), vs = [.ref p, .ref a] ∧ NetAt K H p w its ∧ NetOk w its ∧ H a = some (.lst (sL wd)) ∧ WdOk its wd ∧ ∀ H', Same H H' → Q .non H'
theorem nm_met {K : PySem.W.Frag} {H : Hp} {p : Addr} {w : Nat} {its : List Item} {R : Prop} {m : Str} (h : NetAt K H p w its) (hm : (m == "own_width") = false ∧ (m == "told_items") = false ∧ (m == "own_items") = false) (q : R) :
    ∃ a C dx fs, V.ref p = .ref a ∧ H a = some (.ins C dx fs) ∧ C = He.ga K "Gathered" ∧ fs.lookup m = none ∧ R := net_met h hm q
/-! Gathered.want_withdrawn: 0:self 1:withdrawn 2:leaves 3:position 4:name -/
abbrev n_Gathered_want_withdrawn : List Str := ["self", "withdrawn", "leaves", "position", "name"]
theorem sc_Gathered_want_withdrawn : FnScope n_Gathered_want_withdrawn ["self", "withdrawn"] (defScope s_Gathered_want_withdrawn) := ⟨rfl, rfl, rfl, by decide +kernel, rfl, by decide +kernel, by decide +kernel⟩
theorem c_Gathered_want_withdrawn (T : Txt K mg) : Cal P w K mg base 2 (He.ma K (He.ga K "Gathered") "want_withdrawn") ["self", "withdrawn"] (sp_Gathered_want_withdrawn K) := by
  refine T.d_Gathered_want_withdrawn.cal sc_Gathered_want_withdrawn (fun _ _ _ _ _ _ us hl => match us, hl with | [_, _], _ => rfl) (fun vs H Q E h => ?_) (fun cdv A outer s H vs Q E hr h => ?_)
  · obtain ⟨_, _, _, _, _, rfl, _⟩ := h; rfl
  · obtain ⟨p, a, w, its, wd, rfl, hn, ok, ha, ⟨nd, hl, hw⟩, k⟩ := h
    refine ⟨_, (pss_cons (ps_if (pt_not (pt_val (pe_cal (c_is_list T) (hr.mono (by decide)) (by rfl) T.g_is_list (pa_cons (pv 1) pa_nil))))
        pss_never pss_nil)
      (pss_cons (ps_set (i := 2) sc_Gathered_want_withdrawn.nd rfl (Or.inl rfl) (pe_met0 (pv 0) (im_Gathered_leaves T) (c_Gathered_leaves T) (hr.mono (by decide))))
      (pss_one (ps_for PassesOwn.never rfl (kpi_enum K (by rfl) T.b_enumerate (pa_cons (pv 1) pa_nil)) (kpg_tup K (n := 2) rfl (pgs_cons (pg_name (i := 3) sc_Gathered_want_withdrawn.nd rfl (Or.inl rfl)) (pgs_cons (pg_name (i := 4) sc_Gathered_want_withdrawn.nd rfl (Or.inl rfl)) pgs_nil)))
        (pss_one (ps_if (PW.pt (pw_or (pt_not (pt_val (pe_callB (kcall_isi K) (by rfl) T.b_isinstance bt_isinstance (pa_cons (pv 4) (pa_cons (pe_bltn (v := .ty "str") (by rfl) T.b_str bt_str rfl) pa_nil))))) (pw_or (pt_cmpR (kop_notIn_seq K) (pv 4) (pv 2) (by rfl)) (pw_or1 (pt_cmpR (kop_in_seq K) (pv 4) (pe_slice (ksl_list K) (pv 1) po_none (po_some (pv 3))) (by rfl))))))
          pss_never pss_nil)))))), ?_⟩
    refine ⟨_, rfl, a, _, rfl, ha, fun H1 e1 => ⟨_, rfl, iteF ?_⟩⟩
    refine ⟨_, rfl, net_met (hn.mono e1) (by decide +kernel) ⟨p, w, its, rfl, hn.mono e1, ok, fun H2 q ns e2 nq nn ln mn hq => ?_⟩⟩
    have s2 := e1.trans e2
    refine ⟨_, rfl, a, _, rfl, SqL.of (s2 _ _ ha), ?_⟩
    refine forG wd.length (fun i σ H' => Same H2 H' ∧ ∃ u v, σ = [some (.ref p), some (.ref a), some (.ref q), u, v]) ⟨Same.refl _, _, _, rfl⟩ ?_ ?_ ?_ ?_
    · rintro i σ H' hi ⟨e, _⟩
      have hi' : i < (sL wd).length := by rw [sL_len]; exact hi
      exact ⟨_, _, SqL.of (e _ _ (s2 _ _ ha)), List.getElem?_eq_getElem hi'⟩
    · rintro σ H' ⟨e, _⟩
      exact ⟨_, SqL.of (e _ _ (s2 _ _ ha)), Nat.le_of_eq (sL_len wd)⟩
    · rintro i x σ H3 H4 hi ⟨e, u, v, rfl⟩ ⟨T0, y, rfl, nT, rfl, hx⟩
      obtain ⟨d, hd⟩ : ∃ d, wd[i]? = some d := ⟨_, List.getElem?_eq_getElem hi⟩
      have hx' := hx _ (SqL.of (e _ _ (s2 _ _ ha)))
      rw [sL, List.getElem?_map, hd] at hx'
      cases hx'
      have eT := e.trans (same_upd (o := .tup [.int (i : Nat), .str d]) nT)
      refine ⟨_, _, rfl, .inl (.inl upd_same), rfl, _, _, rfl, _, _, rfl, rfl, ?_⟩
      refine ⟨_, rfl, _, _, _, _, _, rfl, .ty _, .base (.str _), kit_ss, _, rfl, iteF ?_⟩
      refine ⟨_, rfl, _, rfl, q, _, rfl, .inl (SqL.of (eT _ _ hq)), rfl, flat_str _, _, rfl, ?_⟩
      rw [if_pos rfl, inV_str, List.contains_iff_mem.mpr ((mn d).mpr (hw d (List.mem_of_getElem? hd)))]
      refine iteF ⟨_, rfl, _, rfl, _, rfl, _, rfl, a, _, rfl, SqL.of (eT _ _ (s2 _ _ ha)), fun q2 nq2 => ?_⟩
      have ec : cutV (sL wd) none (some ((i : Nat) : Int)) = sL (wd.take i) := by
        unfold cutV
        rw [HT.sIx_none, HT.sIx_nat, sL_len]
        simp [sL, Nat.min_eq_left (Nat.le_of_lt hi)]
      rw [ec]
      refine ⟨_, _, rfl, .inl (SqL.of upd_same), rfl, flat_str _, _, rfl, ?_⟩
      have : (wd.take i).contains d = false := by
        have := not_in_take (l := wd) (f := fun x => x) (by rw [List.map_id']; exact nd) hd
        rwa [List.map_id'] at this
      rw [if_neg (by decide), inV_str, this]
      exact iteF ⟨eT.trans (same_upd nq2), _, _, rfl⟩
    · rintro σ H' ⟨e, _⟩
      exact k H' (s2.trans e)

def sp_Gathered_want_hop (K : PySem.W.Frag) : Sp := fun vs H Q _ => ∃ (p : Addr) (w : Nat) (its : List Item) (h : Str), vs = [.ref p, .str h] ∧ NetAt K H p w its ∧ NetOk w its ∧ (∃ it ∈ its, sees it h) ∧ ∀ H', Same H H' → Q .non H'
/-! Gathered.want_hop: 0:self 1:hop -/
abbrev n_Gathered_want_hop : List Str := ["self", "hop"]
theorem sc_Gathered_want_hop : FnScope n_Gathered_want_hop ["self", "hop"] (defScope s_Gathered_want_hop) := ⟨rfl, rfl, rfl, by decide +kernel, rfl, by decide +kernel, by decide +kernel⟩
theorem c_Gathered_want_hop (T : Txt K mg) : Cal P w K mg base 3 (He.ma K (He.ga K "Gathered") "want_hop") ["self", "hop"] (sp_Gathered_want_hop K) := by
  refine T.d_Gathered_want_hop.cal sc_Gathered_want_hop (fun _ _ _ _ _ _ us hl => match us, hl with | [_, _], _ => rfl) (fun vs H Q E h => ?_) (fun cdv A outer s H vs Q E hr h => ?_)
  · obtain ⟨_, _, _, _, rfl, _⟩ := h; rfl
  · obtain ⟨p, w, its, h, rfl, hn, ok, hh, k⟩ := h
    refine ⟨_, (pss_one (ps_if (PW.pt (pw_or (pt_not (pt_val (pe_callB (kcall_isi K) (by rfl) T.b_isinstance bt_isinstance (pa_cons (pv 1) (pa_cons (pe_bltn (v := .ty "str") (by rfl) T.b_str bt_str rfl) pa_nil))))) (pw_or1 (pt_cmpR (kop_notIn_seq K) (pv 1) (pe_met0 (pv 0) (im_Gathered_hops T) (c_Gathered_hops T) (hr.mono (by decide))) (by rfl)))))
        pss_never pss_nil)), ?_⟩
    refine ⟨_, rfl, _, _, _, _, _, rfl, .ty _, .base (.str _), kit_ss, _, rfl, iteF ?_⟩
    refine ⟨_, rfl, _, rfl, net_met hn (by decide +kernel) ⟨p, w, its, rfl, hn, ok, fun H2 q ys e2 nq nn mn hq => ?_⟩⟩
    refine ⟨q, _, rfl, .inl (SqL.of hq), rfl, flat_str _, _, rfl, ?_⟩
    rw [if_pos rfl, inV_str, List.contains_iff_mem.mpr ((mn h).mpr hh)]
    exact iteF (k _ e2)

def sp_Gathered_want_question (K : PySem.W.Frag) : Sp := fun vs H Q _ => ∃ (p b : Addr) (w : Nat) (its : List Item) (h a : Str) (wd : List Str), vs = [.ref p, .str h, .str a, .ref b] ∧ NetAt K H p w its ∧ NetOk w its ∧ (∃ it ∈ its, sees it h) ∧ IsAd w a ∧
  H b = some (.lst (sL wd)) ∧ WdOk its wd ∧ ∀ H', Same H H' → Q .non H'
/-! Gathered.want_question: 0:self 1:hop 2:address 3:withdrawn -/
abbrev n_Gathered_want_question : List Str := ["self", "hop", "address", "withdrawn"]
theorem sc_Gathered_want_question : FnScope n_Gathered_want_question ["self", "hop", "address", "withdrawn"] (defScope s_Gathered_want_question) := ⟨rfl, rfl, rfl, by decide +kernel, rfl, by decide +kernel, by decide +kernel⟩
theorem c_Gathered_want_question (T : Txt K mg) : Cal P w K mg base 6 (He.ma K (He.ga K "Gathered") "want_question") ["self", "hop", "address", "withdrawn"] (sp_Gathered_want_question K) := by
  refine T.d_Gathered_want_question.cal sc_Gathered_want_question (fun _ _ _ _ _ _ us hl => match us, hl with | [_, _, _, _], _ => rfl) (fun vs H Q E h => ?_) (fun cdv A outer s H vs Q E hr h => ?_)
  · obtain ⟨_, _, _, _, _, _, _, rfl, _⟩ := h; rfl
  · obtain ⟨p, b, w, its, h, a, wd, rfl, hn, ok, hh, had, hb, hw, k⟩ := h
    refine ⟨_, (pss_cons (ps_expr (pe_met (pv 0) (im_Gathered_want_hop T) (c_Gathered_want_hop T) (hr.mono (by decide)) (pa_cons (pv 1) pa_nil)))
      (pss_cons (ps_expr (pe_cal (c_want_address T) (hr.mono (by decide)) (by rfl) T.g_want_address (pa_cons (kpe_fld K (pv 0) rfl) (pa_cons (pv 2) pa_nil))))
      (pss_one (ps_expr (pe_met (pv 0) (im_Gathered_want_withdrawn T) (c_Gathered_want_withdrawn T) (hr.mono (by decide)) (pa_cons (pv 3) pa_nil)))))), ?_⟩
    refine ⟨_, rfl, net_met hn (by decide +kernel) ⟨_, rfl, p, w, its, h, rfl, hn, ok, hh, fun H1 e1 => ?_⟩⟩
    refine ⟨_, rfl, rd_width T (hn.mono e1) ⟨_, rfl, w, a, rfl, ok.w1, ok.w2, had, fun H2 e2 => ?_⟩⟩
    have s2 := e1.trans e2
    exact ⟨_, rfl, net_met (hn.mono s2) (by decide +kernel) ⟨_, rfl, p, b, w, its, wd, rfl, hn.mono s2, ok, s2 _ _ hb, hw, fun H3 e3 => k _ (s2.trans e3)⟩⟩

def Asked (K : PySem.W.Frag) (H : Hp) (p b : Addr) (w : Nat) (its : List Item) (h a : Str) (wd : List Str) : Prop := NetAt K H p w its ∧ NetOk w its ∧ (∃ it ∈ its, sees it h) ∧ IsAd w a ∧ H b = some (.lst (sL wd)) ∧ WdOk its wd
def sp_Gathered_sent_by (K : PySem.W.Frag) : Sp := fun vs H Q _ => ∃ (p b : Addr) (w : Nat) (its : List Item) (h a : Str) (wd : List Str), vs = [.ref p, .str h, .str a, .ref b] ∧ Asked K H p b w its h a wd ∧
  ∀ H' v, Same H H' → (v = match best (cand its wd a h) its with | none => V.non | some it => V.str it.nm) → Q v H'
/-! Gathered.sent_by: 0:self 1:hop 2:address 3:withdrawn 4:item -/
abbrev n_Gathered_sent_by : List Str := ["self", "hop", "address", "withdrawn", "item"]
theorem sc_Gathered_sent_by : FnScope n_Gathered_sent_by ["self", "hop", "address", "withdrawn"] (defScope s_Gathered_sent_by) := ⟨rfl, rfl, rfl, by decide +kernel, rfl, by decide +kernel, by decide +kernel⟩
theorem c_Gathered_sent_by (T : Txt K mg) : Cal P w K mg base 7 (He.ma K (He.ga K "Gathered") "sent_by") ["self", "hop", "address", "withdrawn"] (sp_Gathered_sent_by K) := by
  refine T.d_Gathered_sent_by.cald (by decide) sc_Gathered_sent_by (fun _ _ _ _ _ _ _ us its hl hi => match us, its, hl, hi with | [_, _, _, _], [_], _, _ => ⟨_, rfl, rfl⟩) (fun vs H Q E h => ?_) (fun cdv A outer s H vs Q E hr h => ?_)
  · obtain ⟨_, _, _, _, _, _, _, rfl, _⟩ := h; rfl
  · obtain ⟨p, b, w, its, h, a, wd, rfl, ⟨hn, ok, hh, had, hb, hw⟩, k⟩ := h
    refine ⟨_, (pss_cons (ps_expr (pe_met (pv 0) (im_Gathered_want_question T) (c_Gathered_want_question T) (hr.mono (by decide)) (pa_cons (pv 1) (pa_cons (pv 2) (pa_cons (pv 3) pa_nil)))))
      (pss_cons (ps_set (i := 4) sc_Gathered_sent_by.nd rfl (Or.inl rfl) (pe_cal (c_item_for T) (hr.mono (by decide)) (by rfl) T.g_item_for (pa_cons (pv 0) (pa_cons (pv 1) (pa_cons (pv 2) (pa_cons (pe_cal (c_standing_names T) (hr.mono (by decide)) (by rfl) T.g_standing_names (pa_cons (pv 0) (pa_cons (pv 3) pa_nil))) pa_nil))))))
      (pss_one (ps_ret (pe_ifExp (pt_cmpR op_notN (pv 4) pe_non (nomark _)) (kpe_fld K (pv 4) rfl) pe_non))))), ?_⟩
    refine ⟨_, rfl, net_met hn (by decide +kernel) ⟨_, rfl, _, rfl, _, rfl, p, b, w, its, h, a, wd, rfl, hn, ok, hh, had, hb, hw, fun H1 e1 => ?_⟩⟩
    refine ⟨_, rfl, _, rfl, _, rfl, _, rfl, _, rfl, p, b, w, its, wd, rfl, hn.mono e1, ok, e1 _ _ hb, fun H2 q fs e2 nq hq mq => ?_⟩
    have s2 := e1.trans e2
    refine ⟨p, q, w, its, h, a, fs, wd, rfl, hn.mono s2, ok, hq, mq, fun H3 v e3 hv => ?_⟩
    refine ⟨_, rfl, rfl, _, rfl, ?_⟩
    have kk := k H3
    cases eb : best (cand its wd a h) its with
    | none =>
      rw [eb] at hv kk
      rw [show v = .non from hv, decide_eq_true rfl]
      exact iteF (kk _ (s2.trans e3) rfl)
    | some it =>
      rw [eb] at hv kk
      obtain ⟨pi, rfl, hi⟩ := hv
      rw [decide_eq_false (fun z => nomatch z)]
      exact iteT ⟨_, rfl, rd_name T hi (kk _ (s2.trans e3) rfl)⟩

def sp_Gathered_way (K : PySem.W.Frag) : Sp := fun vs H Q _ => ∃ (p b : Addr) (w : Nat) (its : List Item) (h a : Str) (wd : List Str), vs = [.ref p, .str h, .str a, .ref b] ∧ Asked K H p b w its h a wd ∧
  ∀ H' l ws, Same H H' → H' l = some (.lst (sL ws)) → (∃ r, ws = h :: r) → ws.length ≤ 7 → Chain (step its wd a) ws → Q (.ref l) H'
/-! Gathered.way: 0:self 1:hop 2:address 3:withdrawn -/
abbrev n_Gathered_way : List Str := ["self", "hop", "address", "withdrawn"]
theorem sc_Gathered_way : FnScope n_Gathered_way ["self", "hop", "address", "withdrawn"] (defScope s_Gathered_way) := ⟨rfl, rfl, rfl, by decide +kernel, rfl, by decide +kernel, by decide +kernel⟩
theorem c_Gathered_way (T : Txt K mg) : Cal P w K mg base 7 (He.ma K (He.ga K "Gathered") "way") ["self", "hop", "address", "withdrawn"] (sp_Gathered_way K) := by
  refine T.d_Gathered_way.cald (by decide) sc_Gathered_way (fun _ _ _ _ _ _ _ us its hl hi => match us, its, hl, hi with | [_, _, _, _], [_], _, _ => ⟨_, rfl, rfl⟩) (fun vs H Q E h => ?_) (fun cdv A outer s H vs Q E hr h => ?_)
  · obtain ⟨_, _, _, _, _, _, _, rfl, _⟩ := h; rfl
  · obtain ⟨p, b, w, its, h, a, wd, rfl, ⟨hn, ok, hh, had, hb, hw⟩, k⟩ := h
    refine ⟨_, (pss_cons (ps_expr (pe_met (pv 0) (im_Gathered_want_question T) (c_Gathered_want_question T) (hr.mono (by decide)) (pa_cons (pv 1) (pa_cons (pv 2) (pa_cons (pv 3) pa_nil)))))
      (pss_one (ps_ret (pe_ix (kix_tup K) (pe_cal (c_way_under T) (hr.mono (by decide)) (by rfl) T.g_way_under (pa_cons (pv 0) (pa_cons (pv 1) (pa_cons (pv 2) (pa_cons (pe_cal (c_standing_names T) (hr.mono (by decide)) (by rfl) T.g_standing_names (pa_cons (pv 0) (pa_cons (pv 3) pa_nil))) pa_nil))))) pe_int (fun _ _ => rfl))))), ?_⟩
    refine ⟨_, rfl, net_met hn (by decide +kernel) ⟨_, rfl, _, rfl, _, rfl, p, b, w, its, h, a, wd, rfl, hn, ok, hh, had, hb, hw, fun H1 e1 => ?_⟩⟩
    refine ⟨_, rfl, _, rfl, _, rfl, _, rfl, _, rfl, p, b, w, its, wd, rfl, hn.mono e1, ok, e1 _ _ hb, fun H2 q fs e2 nq hq mq => ?_⟩
    have s2 := e1.trans e2
    refine ⟨p, q, w, its, h, a, fs, wd, rfl, hn.mono s2, ok, hq, mq, fun H3 q3 l ws t e3 h3 hl hr h7 ch he => ?_⟩
    exact ⟨q3, _, 0, .ref l, rfl, rfl, .inl (.inl h3), rfl, k _ l ws (s2.trans e3) hl hr h7 ch⟩

def sp_Gathered_end (K : PySem.W.Frag) : Sp := fun vs H Q _ => ∃ (p b : Addr) (w : Nat) (its : List Item) (h a : Str) (wd : List Str), vs = [.ref p, .str h, .str a, .ref b] ∧ Asked K H p b w its h a wd ∧
  ∀ H' (t : Str), Same H H' → (t = "ring" ↔ Rings (step its wd a) h) → Q (.str t) H'
theorem ends_ring {f : Str → Str} {ws : List Str} {h t : Str} {r : List Str} (e : ws = h :: r) (ch : Chain f ws) (he : Ends f ws t) : t = "ring" ↔ Rings f h := by
  obtain ⟨x, hx, ⟨hend, et⟩ | ⟨hend, hm, et⟩⟩ := he
  · constructor
    · intro z
      exfalso
      rw [z] at et
      rcases hend with q | q <;> (rw [← et] at q; exact absurd q (by decide +kernel))
    · intro z
      subst e
      exact absurd z (noring_of ch hx hend)
  · constructor
    · intro _
      exact ring_of ch (by rw [e]; simp) hx rfl hm hend
    · intro _; exact et
/-! Gathered.end: 0:self 1:hop 2:address 3:withdrawn -/
abbrev n_Gathered_end : List Str := ["self", "hop", "address", "withdrawn"]
theorem sc_Gathered_end : FnScope n_Gathered_end ["self", "hop", "address", "withdrawn"] (defScope s_Gathered_end) := ⟨rfl, rfl, rfl, by decide +kernel, rfl, by decide +kernel, by decide +kernel⟩
theorem c_Gathered_end (T : Txt K mg) : Cal P w K mg base 7 (He.ma K (He.ga K "Gathered") "end") ["self", "hop", "address", "withdrawn"] (sp_Gathered_end K) := by
  refine T.d_Gathered_end.cald (by decide) sc_Gathered_end (fun _ _ _ _ _ _ _ us its hl hi => match us, its, hl, hi with | [_, _, _, _], [_], _, _ => ⟨_, rfl, rfl⟩) (fun vs H Q E h => ?_) (fun cdv A outer s H vs Q E hr h => ?_)
  · obtain ⟨_, _, _, _, _, _, _, rfl, _⟩ := h; rfl
  · obtain ⟨p, b, w, its, h, a, wd, rfl, ⟨hn, ok, hh, had, hb, hw⟩, k⟩ := h
    refine ⟨_, (pss_cons (ps_expr (pe_met (pv 0) (im_Gathered_want_question T) (c_Gathered_want_question T) (hr.mono (by decide)) (pa_cons (pv 1) (pa_cons (pv 2) (pa_cons (pv 3) pa_nil)))))
      (pss_one (ps_ret (pe_ix (kix_tup K) (pe_cal (c_way_under T) (hr.mono (by decide)) (by rfl) T.g_way_under (pa_cons (pv 0) (pa_cons (pv 1) (pa_cons (pv 2) (pa_cons (pe_cal (c_standing_names T) (hr.mono (by decide)) (by rfl) T.g_standing_names (pa_cons (pv 0) (pa_cons (pv 3) pa_nil))) pa_nil))))) pe_int (fun _ _ => rfl))))), ?_⟩
    refine ⟨_, rfl, net_met hn (by decide +kernel) ⟨_, rfl, _, rfl, _, rfl, p, b, w, its, h, a, wd, rfl, hn, ok, hh, had, hb, hw, fun H1 e1 => ?_⟩⟩
    refine ⟨_, rfl, _, rfl, _, rfl, _, rfl, _, rfl, p, b, w, its, wd, rfl, hn.mono e1, ok, e1 _ _ hb, fun H2 q fs e2 nq hq mq => ?_⟩
    have s2 := e1.trans e2
    refine ⟨p, q, w, its, h, a, fs, wd, rfl, hn.mono s2, ok, hq, mq, fun H3 q3 l ws t e3 h3 hl hr h7 ch he => ?_⟩
    obtain ⟨r, er⟩ := hr
    exact ⟨q3, _, 1, .str t, rfl, rfl, .inl (.inl h3), rfl, k _ t (s2.trans e3) (ends_ring er ch he)⟩
end
end Cw

/-! CwM -/
set_option Elab.async false
set_option linter.all false
set_option maxRecDepth 100000
set_option maxHeartbeats 4000000
namespace Cw
open PySem PySem.Spec PyProof.Rows L2
section
variable {P : Program} {w : World} {K : PySem.W.Frag} {mg : Str → Option Value} {base : Heap}
/-! Gatherer.__init__, with super() -/
abbrev aGi (K : PySem.W.Frag) : Addr := He.ma K (He.ga K "Gatherer") "__init__"
abbrev aIi (K : PySem.W.Frag) : Addr := He.ma K (He.ga K "Item") "__init__"
/-- the def with its closure, and what super() asks -/
structure GiniAt (P : Program) (K : PySem.W.Frag) : Prop where
  ex : ∃ (oc : Value) (od : Option Addr) (dV kV doc pm : Value) (an : Option Addr) (cda : Addr) (ct : Value) (osl : Array (Option Value)) (cc : Addr) (ccl : Value) (cdd : Option Addr) (vs : Array Value) (ccs : Array (Option Value)) (file : Str) (tf : Tok) (cl : Value) (cld : Option Addr) (csl : Array (Option Value)),
    K.lookup (aGi K) = some ⟨oc, od, .func (PySem.W.ksFn "__init__" "Gatherer.__init__" (defArgs s_Gatherer_init) (defBody s_Gatherer_init) (defScope s_Gatherer_init) dV kV doc pm an (.ref cda) ct cc), osl⟩ ∧ PySem.W.codeIn K (.ref cda) "Gatherer.__init__" = true ∧ DflV K dV [.non] ∧
    K.lookup cda = some ⟨ccl, cdd, .fields vs, ccs⟩ ∧ vs[2]? = some (.str file tf) ∧ ((P.main.file : Str) == file) = true ∧ K.lookup cc = some ⟨cl, cld, .cell (some (.ref (He.ga K "Gatherer"))), csl⟩
  kp : PySem.W.keepIn K (.ref (aGi K)) = true
  top : (P.main.scope.names.lookup ("super" : Str)).isSome = false
  cls : ∃ cd, PySem.W.clsIn K (He.ga K "Gatherer") = some cd
  sub : ∀ k, k ≠ 0 → PySem.W.mroIn K (clsOf K k) (.ref (He.ga K "Gatherer")) = some true
  sup : ∀ k, k ≠ 0 → PySem.W.ks_superIn K (clsOf K k) (He.ga K "Gatherer") "__init__" = some (some (.ref (aIi K)))
  ty : PySem.W.typeIn K (.ref (aIi K)) = some (.type "function")
  any : PySem.W.nsIn K cStatics "thirdparty.any" = some none
abbrev n_Gatherer_init : List Str := ["self", "name", "stretch", "keeper", "members", "way", "__class__"]
abbrev p_Gatherer_init : List Str := ["self", "name", "stretch", "keeper", "members", "way"]
abbrev nfGi (cc cda : Addr) : NdefX.NF := ⟨"__init__", "Gatherer.__init__", defArgs s_Gatherer_init, defBody s_Gatherer_init, defScope s_Gatherer_init, [("__class__", cc)], cda⟩
theorem sc_Gi (cc cda : Addr) : NdefX.NScope n_Gatherer_init p_Gatherer_init ["__class__"] (nfGi cc cda).scope := NdefX.nscope_by (show NdefX.nscB n_Gatherer_init p_Gatherer_init ["__class__"] (defScope s_Gatherer_init) = true by decide +kernel)
theorem cells_Gi {cc : Addr} {D : Addr} {h : Heap} {H : Hp} (hc : h.IsCell cc (some (.ref D))) (hn : H cc = none) : NdefX.CellsAt [("__class__", cc)] ["__class__"] [some (.ref D)] h H where
  len := rfl
  all := fun y c e => by
    rw [List.lookup_cons] at e
    split at e
    · cases e; exact ⟨hn, _, hc⟩
    · cases e
  inj := fun x y c e1 e2 => by
    rw [List.lookup_cons] at e1 e2
    split at e1
    · split at e2
      · rename_i h1 _ h2
        rw [beq_iff_eq.mp h1, beq_iff_eq.mp h2]
      · cases e2
    · cases e1
  has := fun i y hy => by
    have hi : i = 0 := by
      have := (List.getElem?_eq_some_iff.mp hy).1
      simp at this
      exact this
    subst hi
    cases hy
    refine ⟨cc, by simp [List.lookup], fun v hv => ?_⟩
    cases hv
    exact ⟨_, rfl, hc⟩
def sp_Gatherer_init (K : PySem.W.Frag) : Sp := fun vs H Q _ => ∃ (a dx m b : Addr) (it : Item) (wy : List (Str × Str)), vs = [.ref a, .str it.nm, .str it.st, .str it.kp, .ref m, .ref b] ∧ H a = some (.ins (clsOf K it.k) dx []) ∧ it.k ≠ 0 ∧ H m = some (.lst (sL it.mb)) ∧ H b = some (.dK (dk wy)) ∧ wy.Perm it.wy ∧ ItOk it ∧
  ∀ H', But a H H' → ItemAt K H' a it → Q .non H'
theorem c_Gatherer_init (T : Txt K mg) (G : GiniAt P K) : Cal P w K mg base 7 (aGi K) p_Gatherer_init (sp_Gatherer_init K) := by
  obtain ⟨oc, od, dV, kV, doc, pm, an, cda, ct, osl, cc, ccl, cdd, vs2, ccs, file, tf, cl2, cld, csl, lk, hcd, hD, hcode, hvs, hfile, hcell⟩ := G.ex
  obtain ⟨cdD, hcls⟩ := G.cls
  refine ⟨PySem.W.ksFn "__init__" "Gatherer.__init__" (defArgs s_Gatherer_init) (defBody s_Gatherer_init) (defScope s_Gatherer_init) dV kV doc pm an (.ref cda) ct cc, ⟨fun vs H Q E h => ?_, fun A outer s H args us vs Q E hr e0 hb r hsp => ?_⟩, fun s us X hlen => ?_, G.kp⟩
  · obtain ⟨_, _, _, _, _, _, rfl, _⟩ := h; rfl
  · have KX : K.In s.heap := e0.mod.kin.keeps fun b o e => (e0.bs b o e).1
    have lim : s.heap.NoLimit := e0.mod.nolimit.keeps fun b o e => (e0.bs b o e).1
    have hl : vs.length = p_Gatherer_init.length := by obtain ⟨_, _, _, _, _, _, rfl, _⟩ := hsp; rfl
    refine PySem.ks_codeAny_call_defAt (body := defBody s_Gatherer_init) (binds := p_Gatherer_init.zip us) hr.depth (KX _ _ lk) rfl lim (PySem.W.codeRec_of KX hcd) rfl hb ?_ ?_ (fun h₀ hns hk => ?_)
    · show ∀ x ∈ (defScope s_Gatherer_init).names, x.2 ≠ .cell
      decide +kernel
    · intro y hy
      exact (sc_Gi cc cda).par y.1 (List.of_mem_zip hy).1
    have hccB : base.IsCell cc (some (.ref (He.ga K "Gatherer"))) := ⟨_, e0.mod.kin _ _ hcell, rfl⟩
    have hcc0 : H cc = none := (e0.bs _ _ (e0.mod.kin _ _ hcell)).2
    have hccS : s.heap.IsCell cc (some (.ref (He.ga K "Gatherer"))) := ⟨_, KX _ _ hcell, rfl⟩
    have I : Inv (NdefX.ncx CX0 P w K mg base n_Gatherer_init (nfGi cc cda) (aGi K) A outer s H E) [] (NdefX.startF n_Gatherer_init vs [some (.ref (He.ga K "Gatherer"))]) H { s with heap := h₀, toks := s.toks + (p_Gatherer_init.zip us).length } :=
      NdefX.inv_startN (sc_Gi cc cda) hr.hd e0 hl r (cells_Gi hccS hcc0) hns hk
    obtain ⟨a, dx, m, b, it, wy, rfl, ha, hk0, hm, hb', hp, ok, k⟩ := hsp
    show _root_.PySem.wpAt (model P w) (A.deeper (NdefX.envF (nfGi cc cda) (aGi K) s.heap.objs.size)) (.func (defBody s_Gatherer_init) (NdefX.envF (nfGi cc cda) (aGi K) s.heap.objs.size)) (execs (defBody s_Gatherer_init) (NdefX.envF (nfGi cc cda) (aGi K) s.heap.objs.size)) _ _ _
    have hr' : Room 6 (NdefX.ncx CX0 P w K mg base n_Gatherer_init (nfGi cc cda) (aGi K) A outer s H E).A := hr.deeper _
    generalize hs1 : ({ s with heap := h₀, toks := s.toks + (p_Gatherer_init.zip us).length } : Shared) = s1 at I ⊢
    -- want_head
    refine ks_wpAt_execs_cons (wpAt_of_wpAny (thn ((ps_expr (pe_cal (c_want_head T) (hr'.mono (by decide)) (by rfl) T.g_want_head (pa_cons (pv 1) (pa_cons (pv 2) (pa_cons (pv 3) pa_nil))))).run [] s1 _ H { nx := fun σ H' => σ = NdefX.startF n_Gatherer_init [V.ref a, V.str it.nm, V.str it.st, V.str it.kp, V.ref m, V.ref b] [some (.ref (He.ga K "Gatherer"))] ∧ Same H H', rt := fun _ _ => False } I ?_) fun fl s2 hs2 => ?_))
    · exact ⟨_, rfl, _, rfl, _, rfl, it.nm, it.st, it.kp, rfl, ok.nm, ok.st, ok.stl, ok.kp, fun H' e => ⟨rfl, e⟩⟩
    cases fl with
    | ret u => obtain ⟨_, _, _, _, _, q⟩ := hs2; exact False.elim q
    | brk => obtain ⟨_, _, _, q⟩ := hs2; exact False.elim q
    | cont => obtain ⟨_, _, _, q⟩ := hs2; exact False.elim q
    | next =>
    obtain ⟨σ2, H2, I2, rfl, e2⟩ := hs2
    -- want_members
    refine ks_wpAt_execs_cons (wpAt_of_wpAny (thn ((ps_expr (pe_cal (c_want_members T) (hr'.mono (by decide)) (by rfl) T.g_want_members (pa_cons (pv 4) (pa_cons (pv 1) pa_nil)))).run [] s2 _ H2 { nx := fun σ H' => σ = NdefX.startF n_Gatherer_init [V.ref a, V.str it.nm, V.str it.st, V.str it.kp, V.ref m, V.ref b] [some (.ref (He.ga K "Gatherer"))] ∧ Same H H', rt := fun _ _ => False } I2 ?_) fun fl s3 hs3 => ?_))
    · have mb := ok.mb hk0
      exact ⟨_, rfl, _, rfl, m, it.mb, it.nm, rfl, e2 _ _ hm, mb.1, Nat.le_trans mb.2.1 (by decide), mb.2.2.1, mb.2.2.2.1, fun H' e => ⟨rfl, e2.trans e⟩⟩
    cases fl with
    | ret u => obtain ⟨_, _, _, _, _, q⟩ := hs3; exact False.elim q
    | brk => obtain ⟨_, _, _, q⟩ := hs3; exact False.elim q
    | cont => obtain ⟨_, _, _, q⟩ := hs3; exact False.elim q
    | next =>
    obtain ⟨σ3, H3, I3, rfl, e3⟩ := hs3
    -- super().__init__
    have a3 := e3 _ _ ha
    refine ks_wpAt_execs_cons (ks_wpAt_Expr_any (ks_wpAt_MethodCall ?_))
    obtain ⟨mA, J, _⟩ := ins_get I3.hok a3
    obtain ⟨odI, J, hlk⟩ := J.look
    have K3 := I3.kIn
    obtain ⟨oD, hD1, hD2⟩ : ∃ oD, s3.heap.get? (He.ga K "Gatherer") = some oD ∧ oD.data = .cls cdD := by
      unfold PySem.W.clsIn at hcls
      split at hcls
      · rename_i c d cd' sl ho
        cases hcls
        exact ⟨_, K3 _ _ ho, rfl⟩
      · cases hcls
    obtain ⟨mm, hn3, hl3⟩ := I3.loc
    refine ks_wpAt_super_base rfl rfl (by decide) rfl (K3 _ _ lk) rfl rfl rfl (K3 _ _ hcode) rfl hvs hfile G.top ?_
    obtain ⟨mbl, hb1, hb2⟩ := I3.mod.blt
    refine PySem.W.ks_loadName_global rfl rfl (Calls.loadGlobal_builtin (I3.mod.glob.keeps I3.bk) T.b_super (hb1.keeps I3.bk) ((hb2 "super" (by decide)).trans bt_super) ⟨rfl, ?_⟩)
    refine wpAny_loadName_free rfl rfl rfl ⟨_, K3 _ _ hcell, rfl⟩ ?_
    obtain ⟨u0, r0, l0⟩ := hl3 0 "self" (.ref a) rfl rfl (.inl rfl)
    cases r0
    rcases l0 with ⟨k0, v0⟩ | ⟨k0, _⟩
    case inr =>
      exfalso
      have hlc : (NdefX.ncx CX0 P w K mg base n_Gatherer_init (nfGi cc cda) (aGi K) A outer s H E).env.kindOf "self" = some .local := rfl
      rw [hlc] at k0
      rcases k0 with k0 | k0 <;> cases k0
    refine wpAny_loadName_local rfl k0 hn3 v0 ?_
    refine ks_wpAny_isType_cls hD1 hD2 ⟨rfl, ?_⟩
    refine ks_wpAny_call_super hD1 hD2 J.at_ J.cls (fun c e => ?_) (PySem.W.looks_mroIn K3 (G.sub it.k hk0)) (fun h4 e4 k4 => ?_)
    · have := J.no
      unfold PySem.W.notCls at this
      rw [e] at this
      exact Bool.noConfusion this
    have I4 : Inv (NdefX.ncx CX0 P w K mg base n_Gatherer_init (nfGi cc cda) (aGi K) A outer s H E) [] (NdefX.startF n_Gatherer_init [V.ref a, V.str it.nm, V.str it.st, V.str it.kp, V.ref m, V.ref b] [some (.ref (He.ga K "Gatherer"))]) H3 { s3 with heap := h4 } := I3.kept k4
    have hsup := G.sup it.k hk0
    cases hcC : PySem.W.clsIn K (clsOf K it.k) with
    | none => unfold PySem.W.ks_superIn at hsup; rw [hcC] at hsup; cases hsup
    | some cdC =>
    unfold PySem.W.ks_superIn at hsup
    rw [hcC] at hsup
    obtain ⟨of, hof, hofc⟩ : ∃ of, h4.get? (aIi K) = some of ∧ of.cls = .type "function" := by
      have ht' : (K.lookup (aIi K)).map (·.cls) = some (.type "function") := G.ty
      cases z : K.lookup (aIi K) with
      | none => rw [z] at ht'; cases ht'
      | some of => rw [z] at ht'; exact ⟨of, I4.kIn _ _ z, Option.some.inj ht'⟩
    refine ks_wpAny_getMethod_super e4 (PySem.W.looks_opaque I4.kIn G.any) (l₀ := cdC.mro) ?_ rfl I4.kIn hsup hof hofc (PySem.W.ks_ne K3 J hcC) (by decide) ?_
    · exact fun A Q E s k q => wpAny_bind ((PySem.W.looks_clsIn I4.kIn hcC) A _ E s k (wpAny_pure q))
    have I5 := ClX.met_new (g := aIi K) (C := a) I4
    refine ClX.callwith_cm I5 (ClX.base_none I4 (Nat.le_refl _)) T.d_Item_init.fnIn ?_ rfl rfl
    obtain ⟨fdI, FI, bI, kpI⟩ := (c_Item_init (P := P) (w := w) (base := base) T).ex
    have FR : L2.FnR P w K mg base CX0 3 (aIi K) (sp_Item_init K) := fun A st s H us vs Q E hr e0 r h => by
      have hl := FI.len _ _ _ _ h
      refine FI.run A st s H ⟨us, []⟩ us vs Q E hr e0 ?_ r h
      have := bI s us (e0.mod.kin.keeps fun b o e => (e0.bs b o e).1) (by rw [List.append_nil, ← r.length]; exact hl)
      rwa [List.append_nil] at this
    refine thn ((pa_cons (pv 1) (pa_cons (pv 2) (pa_cons (pv 3) (pa_cons (pv 5) pa_nil)))).run _ _ _ _ H3 (fun vs H' => vs = [.str it.nm, .str it.st, .str it.kp, .ref b] ∧ H' = H3) I5 ⟨_, rfl, _, rfl, _, rfl, _, rfl, rfl, rfl⟩) fun us6 s6 ⟨vs6, H6, I6, rv6, q6⟩ => ⟨⟨ClX.pin_at I6, I6.kIn⟩, ?_⟩
    obtain ⟨rfl, rfl⟩ := q6
    refine wpAny_mono (ClX.run_cm (C := a) (Q := fun v H' => v = .non ∧ But a H6 H' ∧ ∃ wA pA wy', H' a = some (.ins (clsOf K it.k) dx (fl0 it wA pA)) ∧ List.Perm wy' it.wy ∧ H' wA = some (.dK (dk wy')) ∧ H' pA = some (.tup (parts0 it wA))) FR (hr'.mono (by decide)) pass0 I6 rv6
      ⟨a, dx, b, it, wy, rfl, a3, e3 _ _ hb', hp, ok, fun H' wA pA wy' B ha' p' hw hpA => ⟨rfl, B, wA, pA, wy', ha', p', hw, hpA⟩⟩) (fun v7 s7 hv => ?_) fun _ _ x => x
    obtain ⟨z7, H7, I7, r7, rfl, B7, wA, pA, wy', a7, p7, w7, pp7⟩ := hv
    have cC := clsC T (k := it.k)
    obtain ⟨uw, hword⟩ := cC.word
    have mb := ok.mb hk0
    have hma : m ≠ a := fun z => by rw [z, ha] at hm; cases hm
    have m7 := B7 _ _ hma (e3 _ _ hm)
    have w7a : wA ≠ a := fun z => by rw [z, a7] at w7; cases w7
    have p7a : pA ≠ a := fun z => by rw [z, a7] at pp7; cases pp7
    have m7a : m ≠ a := hma
    refine wpAt_of_wpAny (thn ((pss_cons (ps_fld (pv 0) (pe_callB (kcr_sortedS K) (by rfl) T.b_sorted bt_sorted (pa_cons (pv 4) pa_nil)) rfl)
      (pss_one (ps_fld (pv 0) (pe_tup (pa_cons (kpe_con K (pv 0) rfl) (pa_cons (pv 1) (pa_cons (pv 2) (pa_cons (pv 3) (pa_cons (kpe_fld K (pv 0) rfl) (pa_cons (kpe_fld K (pv 0) rfl) pa_nil))))))) rfl))).run [] s7 _ H7 { nx := fun _ H' => Q .non H', rt := Q } I7 ?_) fun fl s8 hs => ?_)
    · refine ⟨_, rfl, m, it.mb, rfl, SqL.of m7, by have := mb.2.1; omega, fun ys q py sy nq => ?_⟩
      have eys : ys = it.mb := sorted_unique py sy mb.2.2.2.2
      subst eys
      have a8 := same_upd (o := .lst (it.mb.map V.str)) nq _ _ a7
      refine ⟨_, rfl, a, _, dx, _, rfl, a8, cC.ins.cl, cC.n_own_members, (by show (5 : Nat) < 1000; decide), ?_⟩
      unfold fl0
      rw [pf6]
      refine ⟨_, rfl, a, _, dx, _, _, uw, rfl, upd_same, cC.ins.cl, hword, by rw [lk_miss (by decide +kernel), lk_miss (by decide +kernel), lk_miss (by decide +kernel), lk_miss (by decide +kernel), lk_miss (by decide +kernel), lk_miss (by decide +kernel)]; rfl, ?_⟩
      refine ⟨_, rfl, _, rfl, _, rfl, _, rfl, a, _, dx, _, _, rfl, upd_same, cC.ins.cl, cC.n_own_way, by rw [lk_miss (by decide +kernel), lk_miss (by decide +kernel), lk_miss (by decide +kernel), lk_hit], ?_⟩
      refine ⟨_, rfl, a, _, dx, _, _, rfl, upd_same, cC.ins.cl, cC.n_own_members, by rw [lk_miss (by decide +kernel), lk_miss (by decide +kernel), lk_miss (by decide +kernel), lk_miss (by decide +kernel), lk_miss (by decide +kernel), lk_hit], ?_⟩
      refine ⟨le_line (by show (6 : Nat) ≤ 100000; decide), fun t nt => ?_⟩
      refine ⟨_, rfl, a, _, dx, _, rfl, same_upd nt _ _ upd_same, cC.ins.cl, cC.n_own_parts, (by show (6 : Nat) < 1000; decide), ?_⟩
      rw [pf7]
      have hta : t ≠ a := fun z => by rw [z, upd_same] at nt; cases nt
      have hqa : q ≠ a := fun z => by rw [z, a7] at nq; cases nq
      refine k _ ?_ ⟨ok.kle, dx, wA, t, q, wy', ?_, p7, ?_, ?_, fun _ => ?_⟩
      · exact ((((But.of e3).trans B7).same (same_upd nq)).set.same (same_upd nt)).set
      · rw [upd_same]; unfold fl; rw [if_neg hk0]
      · rw [upd_ne w7a]; exact same_upd nt _ _ (by rw [upd_ne w7a]; exact same_upd nq _ _ w7)
      · rw [upd_ne hta, upd_same]; unfold partsOf; rw [if_neg hk0]
      · rw [upd_ne hqa]; exact same_upd nt _ _ (by rw [upd_ne hqa]; exact upd_same)
    have fin : ∀ {σ' : L2.St} {H' : Hp} {v : V} {u : Value}, Inv (NdefX.ncx CX0 P w K mg base n_Gatherer_init (nfGi cc cda) (aGi K) A outer s H E) [] σ' H' s8 → RelV v u → Q v H' → CE outer P w H s Q u s8 :=
      fun {σ' H' v u} J rv q => ⟨v, H', J.os, J.bare, J.base, J.hok, rv, q⟩
    cases fl with
    | ret u =>
      obtain ⟨v, σ', H', J, rv, q⟩ := hs
      exact fin J rv q
    | next =>
      obtain ⟨σ', H', J, q⟩ := hs
      exact fin (v := V.non) (u := Value.none) J rfl q
    | brk =>
      obtain ⟨_, _, _, q⟩ := hs
      exact False.elim q
    | cont =>
      obtain ⟨_, _, _, q⟩ := hs
      exact False.elim q
  · rcases hD with ⟨e, _⟩ | ⟨_, T0, o, its, m, rfl, lT, oT, rT⟩
    · cases e
    · refine BindsTo.of_looks fun M => ?_
      rw [List.append_nil] at hlen ⊢
      match us, hlen, its, rT with
      | [_, _, _, _, _, _], _, [_], _ => exact looks_items X lT oT (.of_pure rfl)
end
end Cw

/-! CwN -/
set_option Elab.async false
set_option linter.all false
set_option maxRecDepth 100000
set_option maxHeartbeats 4000000
namespace Cw
open PySem PySem.Spec PyProof.Rows L2
section
variable {P : Program} {w : World} {K : PySem.W.Frag} {mg : Str → Option Value} {base : Heap}
/-! one hole row more, one less -/
structure Lk (f : Item → Item) (its : List Item) : Prop where
  nm : ∀ it ∈ its, (f it).nm = it.nm
  st : ∀ it ∈ its, (f it).st = it.st
  kp : ∀ it ∈ its, (f it).kp = it.kp
  wy : ∀ it ∈ its, (f it).wy = it.wy
  mb : ∀ it ∈ its, (f it).mb = it.mb
  rk : ∀ it ∈ its, (f it).rk = it.rk
  k0 : ∀ it ∈ its, (f it).k = 0 ↔ it.k = 0
  k2 : ∀ it ∈ its, (f it).k ≤ 2
theorem map_same {α : Type} {l : List Item} {f : Item → Item} {g : Item → α} (h : ∀ x ∈ l, g (f x) = g x) : (l.map f).map g = l.map g := by
  rw [List.map_map]; exact List.map_congr_left h
theorem filter_same {l : List Item} {f : Item → Item} {p : Item → Bool} (h : ∀ x ∈ l, p (f x) = p x) : (l.map f).filter p = (l.filter p).map f := by
  rw [List.filter_map]
  congr 1
  exact List.filter_congr h
theorem netok_map {w : Nat} {its : List Item} {f : Item → Item} (ok : NetOk w its) (L : Lk f its) : NetOk w (its.map f) where
  w1 := ok.w1
  w2 := ok.w2
  ne := fun z => ok.ne (List.map_eq_nil_iff.mp z)
  len := by rw [List.length_map]; exact ok.len
  ok := fun y hy => by
    obtain ⟨x, hx, rfl⟩ := List.mem_map.mp hy
    have o := ok.ok x hx
    refine ⟨L.k2 x hx, by rw [L.nm x hx]; exact o.nm, by rw [L.st x hx]; exact o.st, by rw [L.st x hx]; exact o.stl, by rw [L.kp x hx]; exact o.kp, ?_, by rw [L.wy x hx]; exact o.wn, fun hk => ?_⟩
    · have h := o.way
      refine ⟨?_, ?_, ?_, ?_, ?_, ?_, ?_⟩
      · rw [L.wy x hx]; exact h.nd
      · rw [L.wy x hx, L.kp x hx]; exact h.kp
      · rw [L.rk x hx, L.kp x hx]; exact h.rk0
      · rw [L.wy x hx, L.rk x hx]; exact h.dn
      · rw [L.wy x hx, L.rk x hx]; exact h.le
      · rw [L.wy x hx, L.kp x hx]; exact h.val
      · rw [L.wy x hx]; exact h.few
    · rw [L.mb x hx, L.nm x hx]
      exact o.mb fun z => hk ((L.k0 x hx).mpr z)
  sw := fun y hy => by
    obtain ⟨x, hx, rfl⟩ := List.mem_map.mp hy
    rw [L.st x hx]; exact ok.sw x hx
  nmU := by rw [map_same L.nm]; exact ok.nmU
  stU := by rw [map_same L.st]; exact ok.stU
  mem := fun g hg hk m hm => by
    obtain ⟨x, hx, rfl⟩ := List.mem_map.mp hg
    rw [L.mb x hx] at hm
    obtain ⟨y, hy, e, r⟩ := ok.mem x hx (fun z => hk ((L.k0 x hx).mpr z)) m hm
    refine ⟨f y, List.mem_map.mpr ⟨y, hy, rfl⟩, by rw [L.nm y hy]; exact e, ?_⟩
    unfold right sees
    rw [L.st x hx, L.st y hy, L.kp x hx, L.kp y hy, L.wy y hy]
    exact r
  dis := by
    rw [filter_same (fun x hx => by rw [decide_eq_decide]; exact not_congr (L.k0 x hx)), List.flatMap_map]
    have : (its.filter fun g => decide (g.k ≠ 0)).flatMap (fun a => (f a).mb) = (its.filter fun g => decide (g.k ≠ 0)).flatMap (·.mb) := by
      rw [List.flatMap_def, List.flatMap_def]
      congr 1
      exact List.map_congr_left fun x hx => L.mb x (List.mem_filter.mp hx).1
    rw [this]
    exact ok.dis
  hops := by
    obtain ⟨hs, h6, hh⟩ := ok.hops
    refine ⟨hs, h6, fun y hy => ?_⟩
    obtain ⟨x, hx, rfl⟩ := List.mem_map.mp hy
    rw [L.kp x hx, L.wy x hx]; exact hh x hx
  gath := by
    rw [filter_same (fun x hx => by rw [decide_eq_decide]; exact not_congr (L.k0 x hx)), List.length_map]
    exact ok.gath
  nest := fun y hy => by
    obtain ⟨x, hx, rfl⟩ := List.mem_map.mp hy
    rw [filter_same (fun o ho => by rw [decide_eq_decide, L.st o ho]), List.length_map, L.st x hx]
    exact ok.nest x hx
theorem lk_shut {w : Nat} {its : List Item} {n : Str} (ok : NetOk w its) (g : Gath n its) : Lk (shutIt n) its :=
  ⟨fun it _ => shutIt_nm n it, fun it _ => shutIt_st n it, fun it _ => shutIt_kp n it, fun it _ => shutIt_wy n it, fun it _ => shutIt_mb n it, fun it _ => shutIt_rk n it, fun _ hi => shutIt_k0 g hi, fun it hi => by
    unfold shutIt; split
    · exact Nat.le_refl _
    · exact (ok.ok it hi).kle⟩
theorem lk_open {w : Nat} {its : List Item} {n : Str} (ok : NetOk w its) (g : Gath n its) : Lk (openIt n) its := by
  refine ⟨fun it _ => ?_, fun it _ => ?_, fun it _ => ?_, fun it _ => ?_, fun it _ => ?_, fun it _ => ?_, fun it hi => ?_, fun it hi => ?_⟩
  · unfold openIt; split <;> rfl
  · unfold openIt; split <;> rfl
  · unfold openIt; split <;> rfl
  · unfold openIt; split <;> rfl
  · unfold openIt; split <;> rfl
  · unfold openIt; split <;> rfl
  · unfold openIt
    split
    · rename_i e
      have := g it hi e
      simp only
      omega
    · exact Iff.rfl
  · unfold openIt; split
    · show (1 : Nat) ≤ 2; decide
    · exact (ok.ok it hi).kle
def swapIn (j : Item) (x : Item) : Item := if x.nm = j.nm then j else x
def sp_Gathered_with_other (K : PySem.W.Frag) : Sp := fun vs H Q _ => ∃ (p q : Addr) (w : Nat) (its : List Item) (j : Item), vs = [.ref p, .ref q] ∧ NetAt K H p w its ∧ ItemAt K H q j ∧ NetOk w (its.map (swapIn j)) ∧
  ∀ H' r, Same H H' → H r = none → NetAt K H' r w (its.map (swapIn j)) → Q (.ref r) H'
/-! Gathered.with_other: 0:self *1:item 2:one -/
abbrev n_Gathered_with_other : List Str := ["self", "item", "one"]
theorem sc_Gathered_with_other : FnScope n_Gathered_with_other ["self", "item"] (defScope s_Gathered_with_other) := ⟨rfl, rfl, rfl, by decide +kernel, rfl, by decide +kernel, by decide +kernel⟩
theorem c_Gathered_with_other (T : Txt K mg) : Cal P w K mg base 8 (He.ma K (He.ga K "Gathered") "with_other") ["self", "item"] (sp_Gathered_with_other K) := by
  refine T.d_Gathered_with_other.cal sc_Gathered_with_other (fun _ _ _ _ _ _ us hl => match us, hl with | [_, _], _ => rfl) (fun vs H Q E h => ?_) (fun cdv A outer s H vs Q E hr h => ?_)
  · obtain ⟨_, _, _, _, _, rfl, _⟩ := h; rfl
  · obtain ⟨p, q, w, its, j, rfl, hn, hj, ok, k⟩ := h
    refine ⟨_, (pss_one (ps_ret (pe_mk T.mk_Gathered (c_Gathered_init T) (hr.mono (by decide)) (by rfl) T.g_Gathered (pa_cons (kpe_fld K (pv 0) rfl) (pa_cons (pe_lc (own := [("one", 2)]) (g := gName 2) (tt := tYes) rfl sc_Gathered_with_other.nd (kpi_list K (kpe_fld K (pv 0) rfl)) (blkOk_by (N := n_Gathered_with_other) (sc := defScope s_Gathered_with_other) (by decide +kernel)) (fun _ _ _ _ _ => (pg_name (i := 2) sc_Gathered_with_other.nd rfl (Or.inl rfl))) (fun _ _ _ _ _ => pts_nil) (fun _ _ _ _ _ => (pe_ifExp (pt_cmpR op_eq (kpe_fld K (pv 2) rfl) (kpe_fld K (pv 1) rfl) (nomark _)) (pv 1) (pv 2)))) pa_nil))))), ?_⟩
    refine ⟨_, rfl, rd_width T hn ⟨_, rfl, rd_toldS T hn (Same.refl H) fun lA ips hA e hat => ⟨lA, rfl, ⟨_, SqL.of hA⟩, ?_⟩⟩⟩
    have l6 : ips.length ≤ 6 := by have := ok.len; rw [List.length_map, e, List.length_map] at this; exact this
    refine lcY ips (fun o v _ => v = .ref (if o.2.nm = j.nm then q else o.1)) (by omega) (fun _ _ _ _ _ h => h) ?_ ?_ ?_ ?_
    · intro i H' hi e1; exact itl_go (SqL.of (e1 _ _ hA)) (by rw [refs_len]; exact hi)
    · intro H' e1; exact itl_stop (SqL.of (e1 _ _ hA)) (refs_len _)
    · intro i d D x H1 H2 hd hD hD1 e1 y Ry Rn hy
      obtain ⟨rfl, hx⟩ := y
      have hx' := hx _ (SqL.of (off_le _ _ (e1 _ _ hA)))
      rw [refs, List.getElem?_map, hd] at hx'
      cases hx'
      have s1 := e1.trans off_le
      have i1 := (hat d (List.mem_of_getElem? hd)).mono s1
      refine ⟨rfl, _, rfl, rd_name T i1 ⟨_, rfl, rd_name T (hj.mono s1) ⟨rfl, _, rfl, ?_⟩⟩⟩
      by_cases hnm : d.2.nm = j.nm
      · rw [decide_eq_true (by rw [hnm])]
        exact iteT ⟨_, rfl, hy _ _ (Same.refl _) (by rw [if_pos hnm])⟩
      · rw [decide_eq_false (by intro z; injection z with z; exact hnm z)]
        exact iteF ⟨_, rfl, hy _ _ (Same.refl _) (by rw [if_neg hnm])⟩
    · intro D H1 ys nD e1 hD hp
      have s1 : Same H H1 := e1.trans off_le
      have ey : ys = refs (ips.map fun o => if o.2.nm = j.nm then (q, j) else o) := by
        rw [paired_eq (r := fun o : Addr × Item => V.ref (if o.2.nm = j.nm then q else o.1)) hp, refs, List.map_map]
        refine List.map_congr_left fun o _ => ?_
        show _ = V.ref (if o.2.nm = j.nm then (q, j) else o).1
        split <;> rfl
      have eits : its.map (swapIn j) = (ips.map fun o => if o.2.nm = j.nm then (q, j) else o).map (·.2) := by
        rw [e, List.map_map, List.map_map]
        refine List.map_congr_left fun o _ => ?_
        show (if o.2.nm = j.nm then j else o.2) = (if o.2.nm = j.nm then (q, j) else o).2
        split <;> rfl
      have hat2 : Ats K H (ips.map fun o => if o.2.nm = j.nm then (q, j) else o) := fun z hz => by
        obtain ⟨o, ho, rfl⟩ := List.mem_map.mp hz
        split
        · exact hj
        · exact hat o ho
      rw [ey] at hD
      rw [eits] at ok k
      intro r dx nr ndx hne
      have n1 : Same H1 (upd (upd H1 dx (.own r)) r (.ins (He.ga K "Gathered") dx [])) := (same_upd ndx).trans (same_upd (by rw [upd_ne hne.symm]; exact nr))
      refine ⟨r, dx, D, w, _, rfl, upd_same, n1 _ _ hD, (hat2.mono s1).mono n1, ok, fun H' B hN => ⟨rfl, ?_⟩⟩
      exact k H' r (s1.trans (B.back n1 nr)) (s1.free nr) hN

theorem swap_eq {w : Nat} {its : List Item} (ok : NetOk w its) {it : Item} (hi : it ∈ its) (k : Nat) (f : Item → Item) (hf : ∀ x, f x = if x.nm = it.nm then { x with k := k } else x) : its.map (swapIn { it with k := k }) = its.map f := by
  refine List.map_congr_left fun x hx => ?_
  rw [hf]
  unfold swapIn
  by_cases h : x.nm = it.nm
  · rw [if_pos h, if_pos h, ok.inj hx hi h]
  · rw [if_neg h, if_neg h]
theorem itok_k {it : Item} (ok : ItOk it) (hk : it.k ≠ 0) {k : Nat} (h0 : k ≠ 0) (h2 : k ≤ 2) : ItOk { it with k := k } :=
  ⟨h2, ok.nm, ok.st, ok.stl, ok.kp, ⟨ok.way.nd, ok.way.kp, ok.way.rk0, ok.way.dn, ok.way.le, ok.way.val, ok.way.few⟩, ok.wn, fun _ => ok.mb hk⟩
def sp_Gathered_with_hole (K : PySem.W.Frag) : Sp := fun vs H Q _ => ∃ (p : Addr) (w : Nat) (its : List Item) (it : Item), vs = [.ref p, .str it.nm] ∧ NetAt K H p w its ∧ NetOk w its ∧ it ∈ its ∧ it.k ≠ 0 ∧
  ∀ H' r, Same H H' → H r = none → NetAt K H' r w (its.map (shutIt it.nm)) → Q (.ref r) H'
/-! Gathered.with_hole: 0:self 1:name 2:one -/
abbrev n_Gathered_with_hole : List Str := ["self", "name", "one"]
theorem sc_Gathered_with_hole : FnScope n_Gathered_with_hole ["self", "name"] (defScope s_Gathered_with_hole) := ⟨rfl, rfl, rfl, by decide +kernel, rfl, by decide +kernel, by decide +kernel⟩
theorem c_Gathered_with_hole (T : Txt K mg) (G : GiniAt P K) : Cal P w K mg base 11 (He.ma K (He.ga K "Gathered") "with_hole") ["self", "name"] (sp_Gathered_with_hole K) := by
  refine T.d_Gathered_with_hole.cal sc_Gathered_with_hole (fun _ _ _ _ _ _ us hl => match us, hl with | [_, _], _ => rfl) (fun vs H Q E h => ?_) (fun cdv A outer s H vs Q E hr h => ?_)
  · obtain ⟨_, _, _, _, rfl, _⟩ := h; rfl
  · obtain ⟨p, w, its, it, rfl, hn, ok, hi, hk, k⟩ := h
    have g : Gath it.nm its := fun x hx e => by rw [ok.inj hx hi e]; exact hk
    have okI := ok.ok it hi
    have ok2 := itok_k okI hk (k := 2) (by decide) (by decide)
    have es := swap_eq ok hi 2 (shutIt it.nm) (fun x => rfl)
    have okm := netok_map ok (lk_shut ok g)
    rw [← es] at okm k
    refine ⟨_, (pss_cons (ps_set (i := 2) sc_Gathered_with_hole.nd rfl (Or.inl rfl) (pe_met (pv 0) (im_Gathered_want_gatherer T) (c_Gathered_want_gatherer T) (hr.mono (by decide)) (pa_cons (pv 1) pa_nil)))
      (pss_one (ps_ret (pe_met (pv 0) (im_Gathered_with_other T) (c_Gathered_with_other T) (hr.mono (by decide)) (pa_cons (pe_mk T.mk_Closed (c_Gatherer_init T G) (hr.mono (by decide)) (by rfl) T.g_Closed (pa_cons (kpe_fld K (pv 2) rfl) (pa_cons (kpe_fld K (pv 2) rfl) (pa_cons (kpe_fld K (pv 2) rfl) (pa_cons (pe_met0 (pv 2) (im_Gatherer_members T) (c_Gatherer_members T) (hr.mono (by decide))) (pa_cons (pe_met0 (pv 2) (im_Item_way T) (c_Item_way T) (hr.mono (by decide))) pa_nil)))))) pa_nil))))), ?_⟩
    refine ⟨_, rfl, net_met hn (by decide +kernel) ⟨_, rfl, p, w, its, it, rfl, hn, ok, hi, hk, fun H1 q e1 h1 => ?_⟩⟩
    refine ⟨_, rfl, net_met (hn.mono e1) (by decide +kernel) ?_⟩
    refine ⟨_, rfl, rd_name T h1 ⟨_, rfl, rd_stretch T h1 ⟨_, rfl, rd_keeper T h1 ⟨_, rfl, g_met h1 hk (by decide +kernel) ⟨q, it, rfl, h1, hk, fun H2 m e2 nm hm => ?_⟩⟩⟩⟩⟩
    have h2 := h1.mono e2
    refine ⟨_, rfl, it_met h2 (by decide +kernel) ⟨q, it, rfl, h2, fun H3 b wy e3 nb pw hb => ?_⟩⟩
    have s3 := e2.trans e3
    intro r dx nr ndx hne
    have n1 : Same H3 (upd (upd H3 dx (.own r)) r (.ins (He.ga K "Closed") dx [])) := (same_upd ndx).trans (same_upd (by rw [upd_ne hne.symm]; exact nr))
    refine ⟨r, dx, m, b, { it with k := 2 }, wy, rfl, upd_same, by show (2 : Nat) ≠ 0; decide, n1 _ _ (e3 _ _ hm), n1 _ _ hb, pw, ok2, fun H4 B h4 => ⟨rfl, ?_⟩⟩
    have s4 : Same H H4 := (e1.trans s3).trans (B.back n1 nr)
    exact ⟨p, r, w, its, _, rfl, hn.mono s4, h4, okm, fun H5 t e5 nt hN => k H5 t (s4.trans e5) (s4.free nt) hN⟩

def sp_Gathered_without_hole (K : PySem.W.Frag) : Sp := fun vs H Q _ => ∃ (p : Addr) (w : Nat) (its : List Item) (it : Item), vs = [.ref p, .str it.nm] ∧ NetAt K H p w its ∧ NetOk w its ∧ it ∈ its ∧ it.k ≠ 0 ∧
  ∀ H' r, Same H H' → H r = none → NetAt K H' r w (its.map (openIt it.nm)) → Q (.ref r) H'
/-! Gathered.without_hole: 0:self 1:name 2:one -/
abbrev n_Gathered_without_hole : List Str := ["self", "name", "one"]
theorem sc_Gathered_without_hole : FnScope n_Gathered_without_hole ["self", "name"] (defScope s_Gathered_without_hole) := ⟨rfl, rfl, rfl, by decide +kernel, rfl, by decide +kernel, by decide +kernel⟩
theorem c_Gathered_without_hole (T : Txt K mg) (G : GiniAt P K) : Cal P w K mg base 11 (He.ma K (He.ga K "Gathered") "without_hole") ["self", "name"] (sp_Gathered_without_hole K) := by
  refine T.d_Gathered_without_hole.cal sc_Gathered_without_hole (fun _ _ _ _ _ _ us hl => match us, hl with | [_, _], _ => rfl) (fun vs H Q E h => ?_) (fun cdv A outer s H vs Q E hr h => ?_)
  · obtain ⟨_, _, _, _, rfl, _⟩ := h; rfl
  · obtain ⟨p, w, its, it, rfl, hn, ok, hi, hk, k⟩ := h
    have g : Gath it.nm its := fun x hx e => by rw [ok.inj hx hi e]; exact hk
    have okI := ok.ok it hi
    have ok2 := itok_k okI hk (k := 1) (by decide) (by decide)
    have es := swap_eq ok hi 1 (openIt it.nm) (fun x => rfl)
    have okm := netok_map ok (lk_open ok g)
    rw [← es] at okm k
    refine ⟨_, (pss_cons (ps_set (i := 2) sc_Gathered_without_hole.nd rfl (Or.inl rfl) (pe_met (pv 0) (im_Gathered_want_gatherer T) (c_Gathered_want_gatherer T) (hr.mono (by decide)) (pa_cons (pv 1) pa_nil)))
      (pss_one (ps_ret (pe_met (pv 0) (im_Gathered_with_other T) (c_Gathered_with_other T) (hr.mono (by decide)) (pa_cons (pe_mk T.mk_Gatherer (c_Gatherer_init T G) (hr.mono (by decide)) (by rfl) T.g_Gatherer (pa_cons (kpe_fld K (pv 2) rfl) (pa_cons (kpe_fld K (pv 2) rfl) (pa_cons (kpe_fld K (pv 2) rfl) (pa_cons (pe_met0 (pv 2) (im_Gatherer_members T) (c_Gatherer_members T) (hr.mono (by decide))) (pa_cons (pe_met0 (pv 2) (im_Item_way T) (c_Item_way T) (hr.mono (by decide))) pa_nil)))))) pa_nil))))), ?_⟩
    refine ⟨_, rfl, net_met hn (by decide +kernel) ⟨_, rfl, p, w, its, it, rfl, hn, ok, hi, hk, fun H1 q e1 h1 => ?_⟩⟩
    refine ⟨_, rfl, net_met (hn.mono e1) (by decide +kernel) ?_⟩
    refine ⟨_, rfl, rd_name T h1 ⟨_, rfl, rd_stretch T h1 ⟨_, rfl, rd_keeper T h1 ⟨_, rfl, g_met h1 hk (by decide +kernel) ⟨q, it, rfl, h1, hk, fun H2 m e2 nm hm => ?_⟩⟩⟩⟩⟩
    have h2 := h1.mono e2
    refine ⟨_, rfl, it_met h2 (by decide +kernel) ⟨q, it, rfl, h2, fun H3 b wy e3 nb pw hb => ?_⟩⟩
    have s3 := e2.trans e3
    intro r dx nr ndx hne
    have n1 : Same H3 (upd (upd H3 dx (.own r)) r (.ins (He.ga K "Gatherer") dx [])) := (same_upd ndx).trans (same_upd (by rw [upd_ne hne.symm]; exact nr))
    refine ⟨r, dx, m, b, { it with k := 1 }, wy, rfl, upd_same, by show (1 : Nat) ≠ 0; decide, n1 _ _ (e3 _ _ hm), n1 _ _ hb, pw, ok2, fun H4 B h4 => ⟨rfl, ?_⟩⟩
    have s4 : Same H H4 := (e1.trans s3).trans (B.back n1 nr)
    exact ⟨p, r, w, its, _, rfl, hn.mono s4, h4, okm, fun H5 t e5 nt hN => k H5 t (s4.trans e5) (s4.free nt) hN⟩
end
end Cw

/-! CwO -/
set_option Elab.async false
set_option linter.all false
set_option maxRecDepth 100000
set_option maxHeartbeats 4000000
namespace Cw
open PySem PySem.Spec PyProof.Rows L2
section
variable {P : Program} {w : World} {K : PySem.W.Frag} {mg : Str → Option Value} {base : Heap}
/-! cells -/
/-- rows as they stand in the heap -/
abbrev Row := Str × Int × Nat
def RowV (H : Hp) (r : Row) (q : Key × V) : Prop := q.1 = Sum.inr r.1 ∧ ∃ t, q.2 = .ref t ∧ H t = some (.tup [.int r.2.1, .int r.2.2])
theorem RowV.mono {H H' : Hp} {r : Row} {q : Key × V} (h : RowV H r q) (e : ∀ t u, H t = some (.tup u) → H' t = some (.tup u)) : RowV H' r q := by
  obtain ⟨h1, t, h2, h3⟩ := h
  exact ⟨h1, t, h2, e _ _ h3⟩
theorem rows_get {H : Hp} {rs : List Row} {kvs : List (Key × V)} (p : Paired (RowV H) rs kvs) (nd : (rs.map (·.1)).Nodup) {r : Row} (hr : r ∈ rs) : ∃ t, valV kvs (Sum.inr r.1 : Key) = some (.ref t) ∧ H t = some (.tup [.int r.2.1, .int r.2.2]) := by
  induction p with
  | nil => simp at hr
  | @cons x q xs qs hx _ ih =>
    rw [List.map_cons, List.nodup_cons] at nd
    obtain ⟨h1, t, h2, h3⟩ := hx
    unfold valV at ih ⊢
    rw [List.find?_cons]
    by_cases e : x.1 = r.1
    · have : r = x := by
        rcases List.mem_cons.mp hr with z | z
        · exact z
        · exact absurd (by rw [e]; exact List.mem_map.mpr ⟨r, z, rfl⟩) nd.1
      subst this
      rw [h1, decide_eq_true rfl]
      exact ⟨t, by rw [← h2]; rfl, h3⟩
    · rw [h1, decide_eq_false (fun z => e (Sum.inr.inj z))]
      exact ih nd.2 ((List.mem_cons.mp hr).resolve_left fun z => e (by rw [z]))
def setRow (s : Str) (m : Int) (b : Nat) (r : Row) : Row := if r.1 = s then (s, m, b) else r
theorem setRow_1 (s : Str) (m : Int) (b : Nat) (r : Row) : (setRow s m b r).1 = r.1 := by
  unfold setRow; split
  · rename_i h; exact h.symm
  · rfl
theorem setRow_map (s : Str) (m : Int) (b : Nat) (rs : List Row) : (rs.map (setRow s m b)).map (·.1) = rs.map (·.1) := by
  rw [List.map_map]; exact List.map_congr_left fun r _ => setRow_1 s m b r
theorem rows_put {H H' : Hp} {rs : List Row} {kvs : List (Key × V)} {s : Str} {m : Int} {b : Nat} {t : Addr} (p : Paired (RowV H) rs kvs) (hs : s ∈ rs.map (·.1)) (e : ∀ t u, H t = some (.tup u) → H' t = some (.tup u)) (ht : H' t = some (.tup [.int m, .int b])) :
    Paired (RowV H') (rs.map (setRow s m b)) (putK kvs (Sum.inr s : Key) (.ref t)) := by
  have ha : (kvs.any fun kv => decide (kv.1 = (Sum.inr s : Key))) = true := by
    obtain ⟨r, hr, rfl⟩ := List.mem_map.mp hs
    obtain ⟨i, hi, ei⟩ := List.mem_iff_getElem.mp hr
    obtain ⟨q, hq, h1, _⟩ := paired_getL p (i := i) (by rw [List.getElem?_eq_getElem hi, ei])
    exact List.any_eq_true.mpr ⟨q, List.mem_of_getElem? hq, by rw [h1]; simp⟩
  unfold putK
  rw [if_pos ha]
  clear ha hs
  induction p with
  | nil => exact .nil
  | @cons x q xs qs hx _ ih =>
    refine .cons ?_ ih
    obtain ⟨h1, u, h2, h3⟩ := hx
    show RowV H' _ (if q.1 = Sum.inr s then (q.1, V.ref t) else q)
    by_cases z : x.1 = s
    · have z2 : q.1 = Sum.inr s := by rw [h1, z]
      rw [if_pos z2]
      unfold setRow
      rw [if_pos z]
      exact ⟨z2, t, rfl, ht⟩
    · have z2 : q.1 ≠ Sum.inr s := by rw [h1]; exact fun y => z (Sum.inr.inj y)
      rw [if_neg z2]
      unfold setRow
      rw [if_neg z]
      exact ⟨h1, u, h2, e _ _ h3⟩
/-- what a row of the answer holds -/
def AnsV (H : Hp) (w : Nat) (r : Row) (v : V) : Prop := ∃ t, v = .ref t ∧ H t = some (.tup [.str r.1, .int r.2.1, if 0 < r.2.1 then .str (adr w r.2.2) else .non])
/-- the rows of the stretches -/
structure RowsOk (w : Nat) (S : List Str) (rs : List Row) : Prop where
  st : ∀ t ∈ S, StOk w t
  e0 : ("" : Str) ∈ S
  ks : rs.map (·.1) = S
  rc : ∀ r ∈ rs, Rec w S r.1 r.2.1 r.2.2
def sp_cell_rows : Sp := fun vs H Q _ => ∃ (w : Nat) (a : Addr) (ss : List Str), vs = [.int w, .ref a] ∧ H a = some (.lst (sL ss)) ∧ w ≤ 100 ∧ (∀ t ∈ ss, StOk w t) ∧ ss.length ≤ 50 ∧
  ∀ H' q S rs ys, Same H H' → (∀ z, z ∈ S ↔ z ∈ ss ∨ z = "") → RowsOk w S rs → rs.length ≤ 51 → H' q = some (.lst ys) → Paired (AnsV H' w) rs ys → Q (.ref q) H'
theorem pre_empty (a : Str) : pre "" a := List.nil_prefix
theorem cl_empty : cl "" = [] := by decide +kernel
theorem empty_ok (w : Nat) : StOk w "" := ⟨fun c h => by
  have h : c ∈ cl "" := h
  rw [cl_empty] at h
  simp at h, Nat.zero_le _⟩

/-! ### the stack, plain -/
structure Stk (P st : List Str) : Prop where
  sub : ∀ z ∈ st, z ∈ P
  ch : st.Pairwise pre
  top : P ≠ [] → ∃ x, st.getLast? = some x ∧ P.getLast? = some x
  all : ∀ x, P.getLast? = some x → ∀ z ∈ P, pre z x → z ∈ st
theorem stk_nil : Stk [] [] := ⟨by simp, .nil, fun h => absurd rfl h, by simp⟩
theorem chain_last {st : List Str} (ch : st.Pairwise pre) {s z : Str} (hl : st.getLast? = some s) (hz : z ∈ st) : pre z s := by
  obtain ⟨t, rfl⟩ : ∃ t, st = t ++ [s] := by
    rw [List.getLast?_eq_some_iff] at hl; exact hl
  rcases List.mem_append.mp hz with h | h
  · exact (List.pairwise_append.mp ch).2.2 z h s (by simp)
  · rw [List.mem_singleton.mp h]; exact pre_refl s
theorem le_between {z x y : Str} (h : pre z y) (h1 : le z x) (h2 : le x y) : pre z x := between h h1 h2
theorem pw_last {P : List Str} (pw : P.Pairwise le) {x z : Str} (hx : P.getLast? = some x) (hz : z ∈ P) : le z x := by
  obtain ⟨t, rfl⟩ : ∃ t, P = t ++ [x] := by
    rw [List.getLast?_eq_some_iff] at hx; exact hx
  rcases List.mem_append.mp hz with h | h
  · exact (List.pairwise_append.mp pw).2.2 z h x (by simp)
  · rw [List.mem_singleton.mp h]; exact lt_irr _
theorem stk_next {P cur B : List Str} {y : Str} (k : Stk P (cur ++ B)) (pw : (P ++ [y]).Pairwise le) (hB : ∀ z ∈ B, ¬ pre z y) (hc : ∀ s, cur.getLast? = some s → pre s y) : Stk (P ++ [y]) (cur ++ [y]) where
  sub := fun z hz => by
    rcases List.mem_append.mp hz with h | h
    · exact List.mem_append_left _ (k.sub z (List.mem_append_left _ h))
    · exact List.mem_append_right _ h
  ch := by
    have c1 := (List.pairwise_append.mp k.ch).1
    refine List.pairwise_append.mpr ⟨c1, List.pairwise_singleton _ _, fun z hz u hu => ?_⟩
    rw [List.mem_singleton.mp hu]
    cases hl : cur.getLast? with
    | none => rw [List.getLast?_eq_none_iff] at hl; rw [hl] at hz; simp at hz
    | some s => exact pre_trans (chain_last c1 hl hz) (hc s hl)
  top := fun _ => ⟨y, by simp, by simp⟩
  all := fun x hx z hz hp => by
    have : x = y := by simpa using hx.symm
    subst this
    rcases List.mem_append.mp hz with h | h
    · have hP : P ≠ [] := fun q => by rw [q] at h; simp at h
      obtain ⟨u, hu1, hu2⟩ := k.top hP
      have pwP := (List.pairwise_append.mp pw).1
      have h1 := pw_last pwP hu2 h
      have h2 : le u x := (List.pairwise_append.mp pw).2.2 u (List.mem_of_getLast? hu2) x (by simp)
      have := k.all u hu2 z h (le_between hp h1 h2)
      rcases List.mem_append.mp this with q | q
      · exact List.mem_append_left _ q
      · exact absurd hp (hB z q)
    · exact List.mem_append_right _ h
/-- the turn's rows -/
theorem rows_turn {w : Nat} {S P cur B : List Str} {y s : Str} {rs : List Row} (hS : ∀ t ∈ S, StOk w t) (hsub : ∀ t ∈ P, t ∈ S) (hy : y ∈ S) (hn : y ∉ P) (pw : (P ++ [y]).Pairwise le) (hafter : ∀ t ∈ S, t ∉ P → t ≠ y → ¬ pre t y)
    (k : Stk P (cur ++ B)) (hB : ∀ z ∈ B, ¬ pre z y) (hl : cur.getLast? = some s) (hp : pre s y) (ks : rs.map (·.1) = S) (rc : ∀ r ∈ rs, Rec w P r.1 r.2.1 r.2.2) {m : Int} {b : Nat} (hr : (s, m, b) ∈ rs) :
    ∀ r ∈ rs.map (setRow s (m - (sz w y : Nat)) (if b = bg w y then bg w y + sz w y else b)), Rec w (P ++ [y]) r.1 r.2.1 r.2.2 := by
  have c1 := (List.pairwise_append.mp k.ch).1
  have sP : s ∈ P := k.sub s (List.mem_append_left _ (List.mem_of_getLast? hl))
  have lt : ∀ t ∈ P, le t y := fun t ht => (List.pairwise_append.mp pw).2.2 t ht y (by simp)
  have inC : ∀ t ∈ P, pre t y → t ∈ cur := fun t ht tp => by
    have hP : P ≠ [] := fun q => by rw [q] at ht; simp at ht
    obtain ⟨u, hu1, hu2⟩ := k.top hP
    have := k.all u hu2 t ht (le_between tp (pw_last (List.pairwise_append.mp pw).1 hu2 ht) (lt u (List.mem_of_getLast? hu2)))
    exact (List.mem_append.mp this).resolve_right fun q => hB t q tp
  intro r hr2
  obtain ⟨r0, h0, rfl⟩ := List.mem_map.mp hr2
  by_cases e : r0.1 = s
  · unfold setRow
    rw [if_pos e]
    exact rec_parent (fun t ht => hS t (hsub t ht)) (hS y hy) sP hp hn lt (fun t ht tp => chain_last c1 hl (inC t ht tp)) (rc _ hr)
  · unfold setRow
    rw [if_neg e]
    refine rec_other ?_ (rc r0 h0)
    by_cases q : y = r0.1 ∨ ¬ pre r0.1 y
    · exact .inl q
    · have q1 : y ≠ r0.1 := fun z => q (.inl z)
      have q2 : pre r0.1 y := Classical.byContradiction fun z => q (.inr z)
      have rS : r0.1 ∈ S := by rw [← ks]; exact List.mem_map.mpr ⟨r0, h0, rfl⟩
      have rP : r0.1 ∈ P := Classical.byContradiction fun z => hafter _ rS z q1.symm q2
      have b1 := in_sub (hS s (hsub s sP)).2 (hS y hy).2 hp
      exact .inr ⟨s, sP, fun z => e z.symm, chain_last c1 hl (inC _ rP q2), b1.1, b1.2⟩
theorem rows_first {w : Nat} {rs : List Row} (rc : ∀ r ∈ rs, Rec w [] r.1 r.2.1 r.2.2) : ∀ r ∈ rs, Rec w (([] : List Str) ++ [("" : Str)]) r.1 r.2.1 r.2.2 := fun r hr => by
  refine rec_other (.inl ?_) (rc r hr)
  by_cases h : pre r.1 ""
  · left
    have : r.1.length = 0 := Nat.le_zero.mp (pre_len h)
    exact (pre_eq h (pre_refl "") this).symm
  · exact .inr h
theorem atI_last {α : Type} {xs : List α} {v : α} (h : xs.getLast? = some v) : atI xs (-1) = some v := by
  obtain ⟨t, rfl⟩ : ∃ t, xs = t ++ [v] := by
    rw [List.getLast?_eq_some_iff] at h; exact h
  have e : ixN (t ++ [v]).length (-1) = some t.length := by
    unfold ixN
    rw [if_neg (by decide), if_pos (by simp; omega)]
    congr 1
    rw [List.length_append, List.length_singleton]
    omega
  unfold atI
  rw [e]
  simp
theorem le_empty (z : Str) : le "" z := by
  show ltCps (cl z) (cl "") = false
  have : cl "" = [] := by decide +kernel
  rw [this]
  cases cl z <;> rfl
theorem first_empty {S : List Str} (pw : S.Pairwise le) (h : ("" : Str) ∈ S) : S[0]? = some ("" : Str) := by
  cases S with
  | nil => simp at h
  | cons x r =>
    have : x = "" := by
      rcases List.mem_cons.mp h with e | e
      · exact e.symm
      · exact le_anti ((List.pairwise_cons.mp pw).1 "" e) (le_empty x)
    exact congrArg some this
theorem take_snoc {α : Type} {S : List α} {i : Nat} {y : α} (h : S[i]? = some y) : S.take (i + 1) = S.take i ++ [y] := by rw [List.take_add_one, h]; rfl

theorem AnsV.mono {H H' : Hp} {w : Nat} {r : Row} {v : V} (h : AnsV H w r v) (e : Same H H') : AnsV H' w r v := by
  obtain ⟨t, h1, h2⟩ := h
  exact ⟨t, h1, e _ _ h2⟩
theorem sL_last {st : List Str} {s : Str} (h : st.getLast? = some s) : (sL st).getLast? = some (V.str s) := by rw [sL, List.getLast?_map, h]; rfl
theorem sL_isEmpty (st : List Str) : (sL st).isEmpty = st.isEmpty := by cases st <;> rfl
theorem lst_tup {H : Hp} {a : Addr} {xs : List V} (hA : H a = some (.lst xs)) {o : HO} : ∀ t u, H t = some (.tup u) → upd H a o t = some (.tup u) := fun t u h => by
  rw [upd_ne]
  · exact h
  · intro e; rw [e, hA] at h; cases h
theorem dk_tup {H : Hp} {a : Addr} {xs : List (Key × V)} (hA : H a = some (.dK xs)) {o : HO} : ∀ t u, H t = some (.tup u) → upd H a o t = some (.tup u) := fun t u h => by
  rw [upd_ne]
  · exact h
  · intro e; rw [e, hA] at h; cases h
theorem split_S {α : Type} {S : List α} {i : Nat} {y : α} (h : S[i]? = some y) : S = S.take i ++ y :: S.drop (i + 1) := by
  obtain ⟨hi, rfl⟩ := List.getElem?_eq_some_iff.mp h
  rw [← List.drop_eq_getElem_cons hi, List.take_append_drop]
theorem tIf_fin {c : Bool} {ta tb : TE} {σ : L2.St} {H : Hp} {Q : VK} (z : V) (k : Q z H) (h1 : c = true → ∀ Q' : VK, Q' z H → ta σ H Q') (h2 : c = false → ∀ Q' : VK, Q' z H → tb σ H Q') : if c = true then ta σ H Q else tb σ H Q := by
  cases c
  · exact h2 rfl Q k
  · exact h1 rfl Q k
/-! cell_rows: *0:width 1:stretches 2:ordered 3:left 4:around 5:stretch 6:size 7:begin 8:many 9:start 10:one -/
abbrev n_cell_rows : List Str := ["width", "stretches", "ordered", "left", "around", "stretch", "size", "begin", "many", "start", "one"]
theorem sc_cell_rows : FnScope n_cell_rows ["width", "stretches"] (defScope s_cell_rows) := ⟨rfl, rfl, rfl, by decide +kernel, rfl, by decide +kernel, by decide +kernel⟩
theorem c_cell_rows (T : Txt K mg) : Cal P w K mg base 3 (He.ga K "cell_rows") ["width", "stretches"] sp_cell_rows := by
  refine T.d_cell_rows.cal sc_cell_rows (fun _ _ _ _ _ _ us hl => match us, hl with | [_, _], _ => rfl) (fun vs H Q E h => ?_) (fun cdv A outer s H vs Q E hr h => ?_)
  · obtain ⟨_, _, _, rfl, _⟩ := h; rfl
  · obtain ⟨w, a, ss, rfl, ha, hw, hst, hl, k⟩ := h
    have hu := hu_of hr
    refine ⟨_, (pss_cons (ps_set (i := 2) sc_cell_rows.nd rfl (Or.inl rfl) (pe_sortedSetS rfl (pe_op op_cat (pe_callTy (kcall_list_of K) (by rfl) T.b_list bt_list (pa_cons (pv 1) pa_nil)) (pe_lst (pa_cons pe_str pa_nil))) (by rfl) T.b_sorted (by rfl) T.b_set))
      (pss_cons (ps_setDc (i := 3) (own := [("stretch", 5)]) (g := gName 5) (tt := tYes) rfl sc_cell_rows.nd rfl rfl (sw_trueD rfl rfl rfl (by decide +kernel)) (kpi_list K (pv 2)) (blkOk_by (N := n_cell_rows) (sc := defScope s_cell_rows) (by decide +kernel)) (fun _ _ _ _ _ => (pg_name (i := 5) sc_cell_rows.nd rfl (Or.inl rfl))) (fun _ _ _ _ _ => pts_nil) (fun _ _ _ _ _ => (pv 5)) (fun _ _ _ _ _ => (pe_tup (pa_cons (pe_cal (c_size_of T) (hr.mono (by decide)) (by rfl) T.g_size_of (pa_cons (pv 0) (pa_cons (pv 5) pa_nil))) (pa_cons (pe_cal (c_begin_of T) (hr.mono (by decide)) (by rfl) T.g_begin_of (pa_cons (pv 0) (pa_cons (pv 5) pa_nil))) pa_nil)))))
      (pss_cons (ps_set (i := 4) sc_cell_rows.nd rfl (Or.inl rfl) (pe_lst pa_nil))
      (pss_cons (ps_for PassesOwn.never rfl (kpi_list K (pv 2)) (pg_name (i := 5) sc_cell_rows.nd rfl (Or.inl rfl))
        (pss_cons (ps_while PassesOwn.never (PW.pt (pw_and (pt_cmpR (op_neNil K hr.units0) (pv 4) (pe_lst pa_nil) (nomark _)) (pw_and1 (pt_not (pt_val (pe_sw (pv 5) (pe_ix (kix_list K) (pv 4) (pe_un un_neg pe_int) (fun _ _ => rfl)))))))) (pss_one (ps_expr (kpe_bm0 K PySem.F.plainAttrs_list PySem.F.slot_list_pop PySem.F.type_list_pop mt_pop (pv 4)))))
        (pss_cons (ps_if (pt_cmpR (op_neNil K hr.units0) (pv 4) (pe_lst pa_nil) (nomark _))
          (pss_cons (ps_par (i := 6) (j := 7) rfl sc_cell_rows.nd rfl rfl (by decide) rfl rfl (pa_cons (pe_cal (c_size_of T) (hr.mono (by decide)) (by rfl) T.g_size_of (pa_cons (pv 0) (pa_cons (pv 5) pa_nil))) (pa_cons (pe_cal (c_begin_of T) (hr.mono (by decide)) (by rfl) T.g_begin_of (pa_cons (pv 0) (pa_cons (pv 5) pa_nil))) pa_nil)) (by rfl))
          (pss_cons (ps_asg (pe_dget hu (pv 3) (pe_ix (kix_list K) (pv 4) (pe_un un_neg pe_int) (fun _ _ => rfl)) (fun _ _ => rfl)) (kpg_tup K (n := 2) rfl (pgs_cons (pg_name (i := 8) sc_cell_rows.nd rfl (Or.inl rfl)) (pgs_cons (pg_name (i := 9) sc_cell_rows.nd rfl (Or.inl rfl)) pgs_nil))))
          (pss_one (ps_dput hu (pv 3) (pe_ix (kix_list K) (pv 4) (pe_un un_neg pe_int) (fun _ _ => rfl)) (pe_tup (pa_cons (pe_op op_sub (pv 8) (pv 6)) (pa_cons (pe_ifExp (pt_cmpR op_eq (pv 9) (pv 7) (nomark _)) (pe_op op_add (pv 7) (pv 6)) (pv 9)) pa_nil))) rfl)))) pss_nil)
        (pss_one (ps_expr (kpe_bm K PySem.F.plainAttrs_list PySem.F.slot_list_append PySem.F.type_list_append mt_append (pv 4) (pa_cons (pv 5) pa_nil)))))))
      (pss_one (ps_ret (pe_lock (pe_lc (own := [("one", 10), ("many", 8), ("start", 9)]) (tt := tYes) rfl sc_cell_rows.nd (pi_items (pv 3)) (blkOk_by (N := n_cell_rows) (sc := defScope s_cell_rows) (by decide +kernel)) (fun _ _ _ _ _ => (kpg_tup K (n := 2) rfl (pgs_cons (pg_name (i := 10) sc_cell_rows.nd rfl (Or.inl rfl)) (pgs_cons (kpg_tup K (n := 2) rfl (pgs_cons (pg_name (i := 8) sc_cell_rows.nd rfl (Or.inl rfl)) (pgs_cons (pg_name (i := 9) sc_cell_rows.nd rfl (Or.inl rfl)) pgs_nil))) pgs_nil)))) (fun _ _ _ _ _ => pts_nil) (fun _ _ _ _ _ => (pe_tup (pa_cons (pv 10) (pa_cons (pv 8) (pa_cons (pe_ifExp (pt_cmpR op_gt (pv 8) pe_int (nomark _)) (pe_cal (c_address_of T) (hr.mono (by decide)) (by rfl) T.g_address_of (pa_cons (pv 0) (pa_cons (pv 9) pa_nil))) pe_non) pa_nil))))))))))))), ?_⟩
    refine ⟨_, rfl, a, _, rfl, .inl (SqL.of ha), fun l1 n1 => ?_⟩
    refine ⟨le_line (by show (1 : Nat) ≤ 100000; decide), fun l2 n2 => ?_⟩
    refine ⟨l1, l2, _, _, rfl, rfl, same_upd n2 _ _ upd_same, upd_same, le_line (by rw [sL_len]; show ss.length + 1 ≤ 100000; omega), fun l3 n3 => ?_⟩
    have s3 := ((same_upd (o := .lst (sL ss)) n1).trans (same_upd (o := .lst [V.str ""]) n2)).trans (same_upd (o := .lst (sL ss ++ [V.str ""])) n3)
    refine ⟨l3, ss ++ [("" : Str)], rfl, SqL.of (by rw [upd_same]; simp [sL]), by simp; omega, fun S q ndS mS soS nq => ?_⟩
    have s4 := s3.trans (same_upd (o := .lst (sL S)) nq)
    have hq : (upd (upd (upd (upd H l1 (.lst (sL ss))) l2 (.lst [V.str ""])) l3 (.lst (sL ss ++ [V.str ""]))) q (.lst (sL S))) q = some (.lst (sL S)) := upd_same
    generalize upd (upd (upd (upd H l1 (.lst (sL ss))) l2 (.lst [V.str ""])) l3 (.lst (sL ss ++ [V.str ""]))) q (.lst (sL S)) = H1 at s4 hq ⊢
    have mS2 : ∀ z, z ∈ S ↔ z ∈ ss ∨ z = "" := fun z => by rw [mS]; simp
    have hS : ∀ t ∈ S, StOk w t := fun t ht => by
      rcases (mS2 t).mp ht with z | z
      · exact hst t z
      · rw [z]; exact empty_ok w
    have e0 : ("" : Str) ∈ S := (mS2 "").mpr (.inr rfl)
    have pwS := sorted_pw soS
    have lS : S.length ≤ 51 := by
      have : S.length ≤ (ss ++ [("" : Str)]).length := nodup_le ndS fun z hz => (mS z).mp hz
      simp at this; omega
    -- left
    refine ⟨_, rfl, q, rfl, ⟨_, SqL.of hq⟩, ?_⟩
    refine dcG S (fun z => z) (fun z v H => ∃ t, v = .ref t ∧ H t = some (.tup [.int (sz w z : Nat), .int (bg w z : Nat)])) (by rw [List.map_id']; exact ndS) (by omega) (fun z v H H' e h => by obtain ⟨t, h1, h2⟩ := h; exact ⟨t, h1, e _ _ h2⟩) ?_ ?_ ?_ ?_
    · intro i H' hi e; exact itl_go (SqL.of (e _ _ hq)) (by rw [sL_len]; exact hi)
    · intro H' e; exact itl_stop (SqL.of (e _ _ hq)) (sL_len _)
    · intro i z D x G1 G2 hz hD hD1 e y Ry hy
      obtain ⟨rfl, hx⟩ := y
      have hx' := hx _ (SqL.of (off_le _ _ (e _ _ hq)))
      rw [sL, List.getElem?_map, hz] at hx'
      cases hx'
      have zS := hS z (List.mem_of_getElem? hz)
      refine ⟨rfl, _, rfl, _, rfl, _, rfl, w, z, rfl, hw, zS.2, fun G3 e3 => ⟨_, rfl, _, rfl, w, z, rfl, hw, zS.2, fun G4 e4 => ?_⟩⟩
      refine ⟨le_line (by show (2 : Nat) ≤ 100000; decide), fun t nt => ?_⟩
      have htD : t ≠ D := fun q => by
        have : G4 D ≠ none := by
          cases h : G2 D with
          | none => exact absurd h hD1
          | some o => rw [(e3.trans e4) _ _ h]; simp
        rw [← q] at this; exact this nt
      exact hy _ _ ((e3.trans e4).trans (same_upd nt)) ⟨t, rfl, off_of upd_same htD⟩
    intro D H2 kvs nD e2 hD hpk
    have s5 : Same H1 H2 := e2.trans off_le
    have nDH : H D = none := s4.free nD
    have p0 : Paired (RowV H2) (S.map fun z => ((z, ((sz w z : Nat) : Int), bg w z) : Row)) kvs := by
      refine paired_map_left (g := fun z => ((z, ((sz w z : Nat) : Int), bg w z) : Row)) (paired_mono hpk fun z q h => ?_)
      obtain ⟨h1, t, h2, h3⟩ := h
      exact ⟨h1, t, h2, off_le _ _ h3⟩
    -- the walk
    refine ⟨Nat.zero_le _, fun A nA => ?_⟩
    have hDA : D ≠ A := fun z => by rw [z, nA] at hD; cases hD
    have nAH : H A = none := (s4.trans s5).free nA
    have s6 : Same H (upd H2 A (.lst [])) := (s4.trans s5).trans (same_upd nA)
    have nq0 : H q = none ∨ True := .inr trivial
    have q6 : (upd H2 A (.lst [])) q = some (.lst (sL S)) := same_upd nA _ _ (s5 _ _ hq)
    have hqA : q ≠ A := fun z => by have h := s5 _ _ hq; rw [z, nA] at h; cases h
    have hqD : q ≠ D := fun z => by rw [← z, hq] at nD; cases nD
    refine ⟨_, rfl, q, rfl, ⟨_, SqL.of q6⟩, ?_⟩
    refine forG S.length (fun i σ H' => Same H H' ∧ H' q = some (.lst (sL S)) ∧ (∃ st, H' A = some (.lst (sL st)) ∧ st.length ≤ i ∧ Stk (S.take i) st) ∧ (∃ kvs rs, H' D = some (.dK kvs) ∧ Paired (RowV H') rs kvs ∧ rs.map (·.1) = S ∧ ∀ r ∈ rs, Rec w (S.take i) r.1 r.2.1 r.2.2) ∧
      ∃ u0 u1 u2 u3 u4 u5, σ = [some (.int (w : Nat)), some (.ref a), some (.ref q), some (.ref D), some (.ref A), u0, u1, u2, u3, u4, u5]) ⟨s6, q6, ⟨[], upd_same, Nat.le_refl 0, stk_nil⟩, ⟨kvs, _, by rw [upd_ne hDA]; exact hD, paired_mono p0 fun r q h => h.mono fun t u ht => same_upd nA _ _ ht, ?_, ?_⟩, _, _, _, _, _, _, rfl⟩ ?_ ?_ ?_ ?_
    · rw [List.map_map]; exact List.map_id' S
    · intro r hr
      obtain ⟨z, hz, rfl⟩ := List.mem_map.mp hr
      exact rec_new fun t ht => by simp at ht
    · rintro i σ H' hi ⟨_, hq', _⟩; exact itl_go (SqL.of hq') (by rw [sL_len]; exact hi)
    · rintro σ H' ⟨_, hq', _⟩; exact itl_stop (SqL.of hq') (sL_len _)
    · rintro i x σ H3 H4 hi ⟨e3, q3, ⟨st, hA, lst, hk⟩, ⟨kvs, rs, hD3, hpr, hks, hrc⟩, u0, u1, u2, u3, u4, u5, rfl⟩ ⟨rfl, hx⟩
      obtain ⟨y, hy⟩ : ∃ y, S[i]? = some y := ⟨_, List.getElem?_eq_getElem hi⟩
      have hx' := hx _ (SqL.of q3)
      rw [sL, List.getElem?_map, hy] at hx'
      cases hx'
      have yS := List.mem_of_getElem? hy
      have sp := split_S hy
      have pwT : (S.take i ++ [y]).Pairwise le := by rw [← take_snoc hy]; exact pwS.sublist (List.take_sublist _ _)
      have nP : y ∉ S.take i := fun z => by
        have nd := ndS
        rw [sp, List.nodup_append] at nd
        exact nd.2.2 y z y (by simp) rfl
      have hafter : ∀ t ∈ S, t ∉ S.take i → t ≠ y → ¬ pre t y := fun t ht h1 h2 h3 => by
        have pw := pwS
        rw [sp] at ht pw
        have hd : t ∈ S.drop (i + 1) := by
          rcases List.mem_append.mp ht with z | z
          · exact absurd z h1
          · exact (List.mem_cons.mp z).resolve_left h2
        have l1 : le y t := (List.pairwise_cons.mp (List.pairwise_append.mp pw).2.1).1 t hd
        exact h2 (le_anti (pre_le_of h3) l1)
      have subP : ∀ t ∈ S.take i, t ∈ S := fun t h => List.mem_of_mem_take h
      have ndr : (rs.map (·.1)).Nodup := by rw [hks]; exact ndS
      have lkv : kvs.length ≤ 51 := by
        rw [← paired_len hpr, ← List.length_map (f := (·.1)), hks]; exact lS
      refine ⟨fun m σ H5 => ∃ cur B, st = cur ++ B ∧ m = cur.length ∧ Same H H5 ∧ H5 q = some (.lst (sL S)) ∧ H5 A = some (.lst (sL cur)) ∧ (∀ z ∈ B, ¬ pre z y) ∧ H5 D = some (.dK kvs) ∧ Paired (RowV H5) rs kvs ∧
        σ = [some (.int (w : Nat)), some (.ref a), some (.ref q), some (.ref D), some (.ref A), some (.str y), u1, u2, u3, u4, u5], ⟨st.length, st, [], (List.append_nil _).symm, rfl, e3, q3, hA, by simp, hD3, hpr, rfl⟩, ?_⟩
      rintro m σ H5 ⟨cur, B, est, rfl, e5, q5, hA5, hB, hD5, hp5, rfl⟩
      subst est
      cases hcl : cur.getLast? with
      | none =>
        rw [List.getLast?_eq_none_iff] at hcl
        subst hcl
        have hP : S.take i = [] := Classical.byContradiction fun hP => by
          obtain ⟨x, hx1, hx2⟩ := hk.top hP
          have h0 : 0 < i := Nat.pos_of_ne_zero fun z => hP (by rw [z]; rfl)
          have m0 : ("" : Str) ∈ S.take i := by
            have := first_empty pwS e0
            exact List.mem_of_getElem? (i := 0) (by rw [List.getElem?_take_of_lt h0]; exact this)
          have := hk.all x hx2 "" m0 (pre_empty x)
          exact hB "" (by simpa using this) (pre_empty y)
        have hi0 : i = 0 := by
          have : (S.take i).length = 0 := by rw [hP]; rfl
          rw [List.length_take] at this
          omega
        have y0 : y = "" := by
          have := first_empty pwS e0
          rw [hi0] at hy
          rw [hy] at this; exact Option.some.inj this
        refine ⟨_, rfl, le_line (by show (0 : Nat) ≤ 100000; decide), fun l nl => ⟨A, l, [], rfl, rfl, SqL.of ?_, SqL.of upd_same, _, rfl, ?_⟩⟩
        · exact same_upd nl _ _ hA5
        refine iteF (iteF ?_)
        have e6 : Same H5 (upd H5 l (.lst [])) := same_upd nl
        generalize upd H5 l (.lst []) = H6 at e6 ⊢
        refine ⟨_, rfl, le_line (by show (0 : Nat) ≤ 100000; decide), fun l nl => ⟨A, l, [], rfl, rfl, SqL.of ?_, SqL.of upd_same, _, rfl, ?_⟩⟩
        · exact same_upd nl _ _ (e6 _ _ hA5)
        refine iteF ?_
        have e7 : Same H5 (upd H6 l (.lst [])) := e6.trans (same_upd nl)
        generalize upd H6 l (.lst []) = H7 at e7 ⊢
        have hA7 := e7 _ _ hA5
        refine ⟨_, rfl, .inl ⟨rfl, _, SqL.of hA7⟩, _, rfl, A, _, _, rfl, rfl, hA7, lt_line (by show (0 : Nat) ≤ 100000; decide), ?_⟩
        refine ⟨same_mut (e5.trans e7) nAH, by rw [upd_ne hqA]; exact e7 _ _ q5, ⟨[y], upd_same, by show (1 : Nat) ≤ i + 1; omega, ?_⟩, ⟨kvs, rs, by rw [upd_ne hDA]; exact e7 _ _ hD5, paired_mono hp5 fun r q h => h.mono fun t u ht => lst_tup hA7 t u (e7 _ _ ht), hks, ?_⟩, _, _, _, _, _, _, rfl⟩
        · rw [take_snoc hy]
          exact stk_next hk pwT hB (by simp)
        · rw [take_snoc hy, hP, y0]
          exact rows_first (by rw [← hP]; exact hrc)
      | some s =>
        have hsl := sL_last hcl
        have hne : (sL cur).isEmpty = false := by
          cases cur
          · simp at hcl
          · rfl
        have lc : cur.length ≤ i := by rw [List.length_append] at lst; omega
        refine ⟨_, rfl, le_line (by show (0 : Nat) ≤ 100000; decide), fun l nl => ⟨A, l, _, rfl, rfl, SqL.of (same_upd nl _ _ hA5), SqL.of upd_same, _, rfl, ?_⟩⟩
        rw [hne]
        have e6 : Same H5 (upd H5 l (.lst [])) := same_upd nl
        generalize upd H5 l (.lst []) = H6 at e6 ⊢
        refine iteT ⟨_, rfl, ⟨_, rfl⟩, _, rfl, 1, rfl, A, _, _, _, rfl, rfl, SqL.of (e6 _ _ hA5), atI_last hsl, _, _, rfl, rfl, _, rfl, ?_⟩
        rw [sw_dec]
        by_cases hp : pre s y
        · rw [decide_eq_true hp]
          refine iteF ?_
          refine ⟨_, rfl, le_line (by show (0 : Nat) ≤ 100000; decide), fun l nl => ⟨A, l, _, rfl, rfl, SqL.of (same_upd nl _ _ (e6 _ _ hA5)), SqL.of upd_same, _, rfl, ?_⟩⟩
          rw [hne]
          have e7 : Same H5 (upd H6 l (.lst [])) := e6.trans (same_upd nl)
          generalize upd H6 l (.lst []) = H7 at e7 ⊢
          refine iteT ⟨_, rfl, _, rfl, w, y, rfl, hw, (hS y yS).2, fun G1 f1 => ⟨_, rfl, _, rfl, w, y, rfl, hw, (hS y yS).2, fun G2 f2 => ⟨_, _, rfl, ?_⟩⟩⟩
          have e8 : Same H5 G2 := e7.trans (f1.trans f2)
          have sS : s ∈ S := subP s (hk.sub s (List.mem_append_left _ (List.mem_of_getLast? hcl)))
          obtain ⟨⟨s', m, b⟩, hr0, rfl⟩ : ∃ r ∈ rs, r.1 = s := by
            rw [← hks] at sS
            obtain ⟨r, h1, h2⟩ := List.mem_map.mp sS
            exact ⟨r, h1, h2⟩
          obtain ⟨t, ht, htu⟩ := rows_get hp5 ndr hr0
          refine ⟨_, rfl, _, rfl, 1, rfl, A, _, _, _, rfl, rfl, SqL.of (e8 _ _ hA5), atI_last hsl, D, _, rfl, .inl ⟨kvs, (Sum.inr s' : Key), .inl (e8 _ _ hD5), rfl, ht.symm⟩, t, [.int m, .int b], rfl, .inl (.inl (e8 _ _ htu)), rfl, _, _, rfl, _, _, rfl, rfl, ?_⟩
          refine ⟨_, rfl, _, rfl, _, _, rfl, rfl, _, rfl, _, rfl, rfl, _, rfl, ?_⟩
          have eb : (decide (V.int (b : Nat) = V.int ((val (cl y) * 2 ^ (w - y.length) : Nat) : Int))) = decide (b = bg w y) := by
            rw [Bool.eq_iff_iff, decide_eq_true_iff, decide_eq_true_iff]
            exact ⟨fun z => by have := V.int.inj z; unfold bg; exact_mod_cast this, fun z => by rw [z]; rfl⟩
          refine tIf_fin (V.int ((if b = bg w y then bg w y + sz w y else b : Nat) : Int)) ?_ (fun z Q' q' => ⟨_, rfl, _, rfl, _, _, rfl, rfl, ?_⟩) (fun z Q' q' => ⟨_, rfl, ?_⟩)
          rotate_left
          · rw [eb, decide_eq_true_iff] at z
            rw [if_pos z] at q'
            exact q'
          · rw [eb, decide_eq_false_iff_not] at z
            rw [if_neg z] at q'
            exact q'
          refine ⟨le_line (by show (2 : Nat) ≤ 100000; decide), fun t2 nt2 => ⟨_, rfl, _, rfl, 1, rfl, A, _, _, _, rfl, rfl, SqL.of (same_upd nt2 _ _ (e8 _ _ hA5)), atI_last hsl, D, _, rfl, .inl ⟨kvs, (Sum.inr s' : Key), same_upd nt2 _ _ (e8 _ _ hD5), rfl, lt_line (by omega), rfl⟩, ?_⟩⟩
          have e9 : Same H5 (upd G2 t2 (.tup [.int (m - ((2 ^ (w - y.length) : Nat) : Int)), .int ((if b = bg w y then bg w y + sz w y else b : Nat) : Int)])) := e8.trans (same_upd nt2)
          have ht2 : (upd G2 t2 (.tup [.int (m - ((2 ^ (w - y.length) : Nat) : Int)), .int ((if b = bg w y then bg w y + sz w y else b : Nat) : Int)])) t2 = some (.tup [.int (m - ((sz w y : Nat) : Int)), .int ((if b = bg w y then bg w y + sz w y else b : Nat) : Int)]) := upd_same
          generalize upd G2 t2 (.tup [.int (m - ((2 ^ (w - y.length) : Nat) : Int)), .int ((if b = bg w y then bg w y + sz w y else b : Nat) : Int)]) = G3 at e9 ht2 ⊢
          have hD9 := e9 _ _ hD5
          have hA9 : (upd G3 D (.dK (putK kvs (Sum.inr s') (.ref t2)))) A = some (.lst (sL cur)) := by rw [upd_ne (Ne.symm hDA)]; exact e9 _ _ hA5
          refine ⟨_, rfl, .inl ⟨rfl, _, SqL.of hA9⟩, _, rfl, A, _, _, rfl, rfl, hA9, lt_line (by rw [sL_len]; omega), ?_⟩
          have el : sL cur ++ [V.str y] = sL (cur ++ [y]) := by simp [sL]
          rw [el]
          refine ⟨same_mut (same_mut (e5.trans e9) nDH) nAH, by rw [upd_ne hqA, upd_ne hqD]; exact e9 _ _ q5, ⟨cur ++ [y], upd_same, by rw [List.length_append, List.length_singleton]; omega, ?_⟩,
            ⟨_, rs.map (setRow s' (m - (sz w y : Nat)) (if b = bg w y then bg w y + sz w y else b)), by rw [upd_ne hDA]; exact upd_same, rows_put hp5 (by rw [hks]; exact sS) (fun t u ht => lst_tup hA9 t u (dk_tup hD9 t u (e9 _ _ ht))) (lst_tup hA9 _ _ (dk_tup hD9 _ _ ht2)), by rw [setRow_map, hks], ?_⟩, _, _, _, _, _, _, rfl⟩
          · rw [take_snoc hy]
            exact stk_next hk pwT hB (fun s hs => by rw [hcl] at hs; rw [← Option.some.inj hs]; exact hp)
          · rw [take_snoc hy]
            exact rows_turn hS subP yS nP pwT hafter hk hB hcl hp hks hrc hr0
        · rw [decide_eq_false hp]
          refine iteT ⟨_, fun _ _ z => z, ?_⟩
          have hA6 := e6 _ _ hA5
          refine ⟨_, rfl, .inl ⟨rfl, _, SqL.of hA6⟩, A, _, V.str s, rfl, rfl, hA6, by rw [← List.getLast?_eq_getElem?]; exact hsl, ?_⟩
          obtain ⟨t, rfl⟩ : ∃ t, cur = t ++ [s] := by
            rw [List.getLast?_eq_some_iff] at hcl; exact hcl
          have ed : (sL (t ++ [s])).dropLast = sL t := by simp [sL]
          rw [ed]
          refine ⟨t.length, by simp, t, s :: B, by simp, rfl, same_mut (e5.trans e6) nAH, by rw [upd_ne hqA]; exact e6 _ _ q5, upd_same, fun z hz => ?_, by rw [upd_ne hDA]; exact e6 _ _ hD5, paired_mono hp5 fun r q h => h.mono fun t u ht => lst_tup hA6 t u (e6 _ _ ht), rfl⟩
          rcases List.mem_cons.mp hz with z1 | z1
          · rw [z1]; exact hp
          · exact hB z z1
    · rintro σ H3 ⟨e3, q3, _, ⟨kvs, rs, hD3, hpr, hks, hrc⟩, u0, u1, u2, u3, u4, u5, rfl⟩
      rw [List.take_length] at hrc
      have lrs : rs.length ≤ 51 := by rw [← List.length_map (f := (·.1)), hks]; exact lS
      have ndr : (rs.map (·.1)).Nodup := by rw [hks]; exact ndS
      refine ⟨D, _, hD3, trivial, fun od => ?_⟩
      refine ⟨_, rfl, D, od, kvs, rfl, upd_same, ?_⟩
      refine lcY rs (fun r v H => AnsV H w r v) (by omega) (fun r v H H' e h => h.mono e) ?_ ?_ ?_ ?_
      · intro i H' hi e
        exact ⟨e _ _ upd_same, by rw [← paired_len hpr]; exact hi⟩
      · intro H' e
        exact ⟨e _ _ upd_same, by rw [← paired_len hpr]; exact Nat.le_refl _⟩
      · intro i r L x G1 G2 hr nL hL e y Ry Rn hy
        obtain ⟨T0, kk, v, hx, rfl, nT, rfl⟩ := y
        obtain ⟨q0, hq0, hr1, t, hv, htu⟩ := paired_getL hpr hr
        rw [hx] at hq0
        cases hq0
        obtain ⟨z, m, b⟩ := r
        dsimp only at hr1 hv htu
        subst hr1 hv
        have tD : t ≠ D := fun z => by rw [z, hD3] at htu; cases htu
        have ht1 : G1 t = some (.tup [.int m, .int b]) := off_le _ _ (e _ _ (by rw [upd_ne tD]; exact htu))
        have eT : Same G1 (upd G1 T0 (.tup [kV (Sum.inr z), .ref t])) := same_upd nT
        refine ⟨T0, _, rfl, .inl (.inl upd_same), rfl, _, _, rfl, _, _, rfl, t, _, rfl, .inl (.inl (eT _ _ ht1)), rfl, _, _, rfl, _, _, rfl, rfl, rfl, rfl, ?_⟩
        refine ⟨_, rfl, _, rfl, _, rfl, _, _, rfl, rfl, _, rfl, ?_⟩
        have fin : ∀ G2 (x : V), Same G1 G2 → x = (if 0 < m then V.str (adr w b) else V.non) → ∀ u, G2 u = none → Ry (.ref u) (upd G2 u (.tup [.str z, .int m, x])) := fun G2 x e2 ex u nu => by
          refine hy _ _ (e2.trans (same_upd nu)) ⟨u, rfl, ?_⟩
          have uL : u ≠ L := fun q => by
            cases h : G1 L with
            | none => exact absurd h hL
            | some o => rw [q, e2 _ _ h] at nu; cases nu
          rw [off_ne uL, upd_same, ex]
        by_cases h0 : (0 : Int) < m
        · rw [decide_eq_true h0]
          refine iteT ⟨_, rfl, _, rfl, w, b, rfl, hw, fun G3 e3' => ⟨le_line (by show (3 : Nat) ≤ 100000; decide), fun u nu => ?_⟩⟩
          exact fin _ _ (eT.trans e3') (if_pos h0).symm u nu
        · rw [decide_eq_false h0]
          refine iteF ⟨le_line (by show (3 : Nat) ≤ 100000; decide), fun u nu => ?_⟩
          exact fin _ _ eT (if_neg h0).symm u nu
      intro L H2 ys nL e hL hp
      refine ⟨e.trans off_le _ _ upd_same, ?_⟩
      have hLD : L ≠ D := fun z => by rw [z, upd_same] at nL; cases nL
      have hD2 := (e.trans off_le) _ _ upd_same
      have s1 : Same H3 (upd H2 D (.dK kvs)) := unlock hD3 (e.trans off_le)
      refine k _ L S rs ys (e3.trans s1) mS2 ⟨hS, e0, hks, hrc⟩ lrs (by rw [upd_ne hLD]; exact hL) (paired_mono hp fun r v h => ?_)
      obtain ⟨t, h1, h2⟩ := h
      have h3 := off_le _ _ h2
      exact ⟨t, h1, by rw [upd_ne (fun z => by rw [z, hD2] at h3; cases h3)]; exact h3⟩
end
end Cw

/-! CwP -/
set_option Elab.async false
set_option linter.all false
set_option maxRecDepth 100000
set_option maxHeartbeats 4000000
namespace Cw
open PySem PySem.Spec PyProof.Rows L2
section
variable {P : Program} {w : World} {K : PySem.W.Frag} {mg : Str → Option Value} {base : Heap}
/-! the safe ones -/
def Tops (w : Nat) (its : List Item) (S : List Str) (rs : List Row) : Prop := (∀ z, z ∈ S ↔ (∃ it ∈ its, it.st = z) ∨ z = "") ∧ RowsOk w S rs
def sp_Gathered_cells (K : PySem.W.Frag) : Sp := fun vs H Q _ => ∃ (p : Addr) (w : Nat) (its : List Item), vs = [.ref p] ∧ NetAt K H p w its ∧ NetOk w its ∧
  ∀ H' q S rs ys, Same H H' → Tops w its S rs → rs.length ≤ 51 → H' q = some (.lst ys) → Paired (AnsV H' w) rs ys → Q (.ref q) H'
/-! Gathered.cells: 0:self 1:item -/
abbrev n_Gathered_cells : List Str := ["self", "item"]
theorem sc_Gathered_cells : FnScope n_Gathered_cells ["self"] (defScope s_Gathered_cells) := ⟨rfl, rfl, rfl, by decide +kernel, rfl, by decide +kernel, by decide +kernel⟩
theorem c_Gathered_cells (T : Txt K mg) : Cal P w K mg base 4 (He.ma K (He.ga K "Gathered") "cells") ["self"] (sp_Gathered_cells K) := by
  refine T.d_Gathered_cells.cal sc_Gathered_cells (fun _ _ _ _ _ _ us hl => match us, hl with | [_], _ => rfl) (fun vs H Q E h => ?_) (fun cdv A outer s H vs Q E hr h => ?_)
  · obtain ⟨_, _, _, rfl, _⟩ := h; rfl
  · obtain ⟨p, w, its, rfl, hn, ok, k⟩ := h
    refine ⟨_, (pss_one (ps_ret (pe_cal (c_cell_rows T) (hr.mono (by decide)) (by rfl) T.g_cell_rows (pa_cons (kpe_fld K (pv 0) rfl) (pa_cons (pe_lc (own := [("item", 1)]) (g := gName 1) (tt := tYes) rfl sc_Gathered_cells.nd (kpi_list K (kpe_fld K (pv 0) rfl)) (blkOk_by (N := n_Gathered_cells) (sc := defScope s_Gathered_cells) (by decide +kernel)) (fun _ _ _ _ _ => (pg_name (i := 1) sc_Gathered_cells.nd rfl (Or.inl rfl))) (fun _ _ _ _ _ => pts_nil) (fun _ _ _ _ _ => (kpe_fld K (pv 1) rfl))) pa_nil))))), ?_⟩
    refine ⟨_, rfl, rd_width T hn ⟨_, rfl, rd_toldS T hn (Same.refl H) fun lA ips hA e hat => ⟨lA, rfl, ⟨_, SqL.of hA⟩, ?_⟩⟩⟩
    refine lcY ips (fun d v _ => v = .str d.2.st) (by have := len6 ok e; omega) (fun _ _ _ _ _ h => h) ?_ ?_ ?_ ?_
    · intro i H' hi e1; exact itl_go (SqL.of (e1 _ _ hA)) (by rw [refs_len]; exact hi)
    · intro H' e1; exact itl_stop (SqL.of (e1 _ _ hA)) (refs_len _)
    · intro i d D x H1 H2 hd nD hD e1 y Ry Rn hy
      obtain ⟨rfl, hx⟩ := y
      have hx' := hx _ (SqL.of (off_le _ _ (e1 _ _ hA)))
      rw [refs, List.getElem?_map, hd] at hx'
      cases hx'
      exact ⟨rfl, _, rfl, rd_stretch T (((hat d (List.mem_of_getElem? hd)).mono e1).mono off_le) (hy _ _ (Same.refl _) rfl)⟩
    intro D H2 ys nD e2 hD hp
    have ey := paired_str (sf := fun d : Addr × Item => d.2.st) hp
    subst ey
    have hst : ∀ z, z ∈ ips.map (fun d => d.2.st) ↔ ∃ it ∈ its, it.st = z := fun z => by
      rw [e]; simp only [List.mem_map]
      exact ⟨fun ⟨a, h1, h2⟩ => ⟨a.2, ⟨a, h1, rfl⟩, h2⟩, fun ⟨_, ⟨a, h1, h3⟩, h2⟩ => ⟨a, h1, by rw [h3]; exact h2⟩⟩
    refine ⟨w, D, _, rfl, hD, ok.w2, fun t ht => ?_, by rw [List.length_map]; have := len6 ok e; omega, fun H' q S rs ys e3 mS hr hl hq hpr => k H' q S rs ys ((e2.trans off_le).trans e3) ⟨fun z => by rw [mS, hst], hr⟩ hl hq hpr⟩
    obtain ⟨it, hi, rfl⟩ := (hst t).mp ht
    have := ok.ok it hi
    exact ⟨this.st, ok.sw it hi⟩

def sp_full_cells (K : PySem.W.Frag) : Sp := fun vs H Q _ => ∃ (p : Addr) (w : Nat) (its : List Item), vs = [.ref p] ∧ NetAt K H p w its ∧ NetOk w its ∧
  ∀ H' q S rs ys, Same H H' → Tops w its S rs → rs.length ≤ 51 → H' q = some (.lst ys) → Paired (AnsV H' w) (rs.filter fun r => decide (0 < r.2.1)) ys → Q (.ref q) H'
/-! full_cells: 0:gathered 1:row -/
abbrev n_full_cells : List Str := ["gathered", "row"]
theorem sc_full_cells : FnScope n_full_cells ["gathered"] (defScope s_full_cells) := ⟨rfl, rfl, rfl, by decide +kernel, rfl, by decide +kernel, by decide +kernel⟩
theorem c_full_cells (T : Txt K mg) : Cal P w K mg base 5 (He.ga K "full_cells") ["gathered"] (sp_full_cells K) := by
  refine T.d_full_cells.cal sc_full_cells (fun _ _ _ _ _ _ us hl => match us, hl with | [_], _ => rfl) (fun vs H Q E h => ?_) (fun cdv A outer s H vs Q E hr h => ?_)
  · obtain ⟨_, _, _, rfl, _⟩ := h; rfl
  · obtain ⟨p, w, its, rfl, hn, ok, k⟩ := h
    refine ⟨_, (pss_one (ps_ret (pe_lc (own := [("row", 1)]) (g := gName 1) rfl sc_full_cells.nd (kpi_list K (pe_met0 (pv 0) (im_Gathered_cells T) (c_Gathered_cells T) (hr.mono (by decide)))) (blkOk_by (N := n_full_cells) (sc := defScope s_full_cells) (by decide +kernel)) (fun _ _ _ _ _ => (pg_name (i := 1) sc_full_cells.nd rfl (Or.inl rfl))) (fun _ _ _ _ _ => (pts_one (pt_cmpR op_notN (pe_ix (kix_tup K) (pv 1) pe_int (fun _ _ => rfl)) pe_non (nomark _)))) (fun _ _ _ _ _ => (pv 1))))), ?_⟩
    refine ⟨_, rfl, net_met hn (by decide +kernel) ⟨p, w, its, rfl, hn, ok, fun H1 q S rs ys e1 ht hl hq hp => ⟨q, rfl, ⟨_, SqL.of hq⟩, ?_⟩⟩⟩
    refine lcG rs (fun r => decide (0 < r.2.1)) (fun r v H => AnsV H w r v) (by omega) (fun r v H H' e h => h.mono e) ?_ ?_ ?_ ?_
    · intro i H' hi e; exact itl_go (SqL.of (e _ _ hq)) (by rw [← paired_len hp]; exact hi)
    · intro H' e; exact itl_stop (SqL.of (e _ _ hq)) (paired_len hp).symm
    · intro i r D x G1 G2 hr nD hD e y Ry Rn hy hno
      obtain ⟨rfl, hx⟩ := y
      have hx' := hx _ (SqL.of (off_le _ _ (e _ _ hq)))
      obtain ⟨v, hv, t, rfl, htu⟩ := paired_getL hp hr
      rw [hv] at hx'
      cases hx'
      have ht1 := e _ _ htu
      refine ⟨rfl, _, rfl, t, _, 2, _, rfl, rfl, .inl (.inl (off_le _ _ ht1)), rfl, ?_⟩
      refine ⟨rfl, _, rfl, ?_⟩
      by_cases h0 : 0 < r.2.1
      · rw [if_pos h0] at htu ⊢
        rw [decide_eq_false (fun z => nomatch z)]
        exact iteT ⟨_, rfl, hy (decide_eq_true h0) _ _ (Same.refl _) ⟨t, rfl, ht1⟩⟩
      · rw [if_neg h0] at htu ⊢
        rw [decide_eq_true rfl]
        exact iteF (hno (decide_eq_false h0) _ (Same.refl _))
    intro D H2 zs nD e2 hD hp2
    refine k _ D S rs zs (e1.trans (e2.trans off_le)) ht hl hD (paired_mono hp2 fun r v h => h.mono off_le)

def Dense (its : List Item) (wds : List (List Str)) : Prop := ∀ wd : List Str, ∃ wd' ∈ wds, ∀ it ∈ its, it.k = 0 → (it.nm ∈ wd ↔ it.nm ∈ wd')
def LstV (H : Hp) (wd : List Str) (v : V) : Prop := ∃ a, v = .ref a ∧ H a = some (.lst (sL wd))
def sp_all_withdrawn (K : PySem.W.Frag) : Sp := fun vs H Q _ => ∃ (p : Addr) (w : Nat) (its : List Item), vs = [.ref p] ∧ NetAt K H p w its ∧ NetOk w its ∧
  ∀ H' q wds ys, Same H H' → wds.length ≤ 64 → Dense its wds → H' q = some (.lst ys) → Paired (LstV H') wds ys → Q (.ref q) H'
/-! all_withdrawn: 0:gathered 1:found *2:name 3:some -/
abbrev n_all_withdrawn : List Str := ["gathered", "found", "name", "some"]
theorem sc_all_withdrawn : FnScope n_all_withdrawn ["gathered"] (defScope s_all_withdrawn) := ⟨rfl, rfl, rfl, by decide +kernel, rfl, by decide +kernel, by decide +kernel⟩
theorem c_all_withdrawn (T : Txt K mg) : Cal P w K mg base 2 (He.ga K "all_withdrawn") ["gathered"] (sp_all_withdrawn K) := by
  refine T.d_all_withdrawn.cal sc_all_withdrawn (fun _ _ _ _ _ _ us hl => match us, hl with | [_], _ => rfl) (fun vs H Q E h => ?_) (fun cdv A outer s H vs Q E hr h => ?_)
  · obtain ⟨_, _, _, rfl, _⟩ := h; rfl
  · obtain ⟨p, w, its, rfl, hn, ok, k⟩ := h
    refine ⟨_, (pss_cons (ps_set (i := 1) sc_all_withdrawn.nd rfl (Or.inl rfl) (pe_lst (pa_cons (pe_lst pa_nil) pa_nil)))
      (pss_cons (ps_for PassesOwn.never rfl (kpi_list K (pe_met0 (pv 0) (im_Gathered_leaves T) (c_Gathered_leaves T) (hr.mono (by decide)))) (pg_name (i := 2) sc_all_withdrawn.nd rfl (Or.inr rfl))
        (pss_one (ps_set (i := 1) sc_all_withdrawn.nd rfl (Or.inl rfl) (pe_op op_cat (pv 1) (pe_lc (own := [("some", 3)]) (g := gName 3) (tt := tYes) rfl sc_all_withdrawn.nd (kpi_list K (pv 1)) (blkOk_by (N := n_all_withdrawn) (sc := defScope s_all_withdrawn) (by decide +kernel)) (fun _ _ _ _ _ => (pg_name (i := 3) sc_all_withdrawn.nd rfl (Or.inl rfl))) (fun _ _ _ _ _ => pts_nil) (fun _ _ _ _ _ => (pe_op op_cat (pv 3) (pe_lst (pa_cons (pv 2) pa_nil)))))))))
      (pss_one (ps_ret (pv 1))))), ?_⟩
    refine ⟨le_line (by show (0 : Nat) ≤ 100000; decide), fun a1 n1 => ⟨le_line (by show (1 : Nat) ≤ 100000; decide), fun a2 n2 => ?_⟩⟩
    have e1 : Same H (upd (upd H a1 (.lst [])) a2 (.lst [.ref a1])) := (same_upd n1).trans (same_upd n2)
    have h1 : (upd (upd H a1 (.lst [])) a2 (.lst [.ref a1])) a1 = some (.lst (sL [])) := same_upd n2 _ _ upd_same
    have h2 : (upd (upd H a1 (.lst [])) a2 (.lst [.ref a1])) a2 = some (.lst [.ref a1]) := upd_same
    generalize upd (upd H a1 (.lst [])) a2 (.lst [.ref a1]) = H1 at e1 h1 h2 ⊢
    refine ⟨_, rfl, net_met (hn.mono e1) (by decide +kernel) ⟨p, w, its, rfl, hn.mono e1, ok, fun H2 q ns e2 nq nn ln mn hq => ⟨q, rfl, ⟨_, SqL.of hq⟩, ?_⟩⟩⟩
    refine forG ns.length (fun i σ H' => Same H2 H' ∧ ∃ (b : Addr) (wds : List (List Str)) (ys : List V) (u v : Option V), H' b = some (.lst ys) ∧ Paired (LstV H') wds ys ∧ wds.length = 2 ^ i ∧ (∀ wd ∈ wds, wd.length ≤ i) ∧ (∀ wd : List Str, ∃ wd' ∈ wds, ∀ n, (n ∈ wd ∧ n ∈ ns.take i) ↔ n ∈ wd') ∧
      σ = [some (.ref p), some (.ref b), u, v]) ⟨Same.refl _, a2, [[]], [.ref a1], _, _, e2 _ _ h2, .cons ⟨a1, rfl, e2 _ _ h1⟩ .nil, rfl, by simp, fun wd => ⟨[], by simp, by simp⟩, rfl⟩ ?_ ?_ ?_ ?_
    · rintro i σ H' hi ⟨e, _⟩; exact itl_go (SqL.of (e _ _ hq)) (by rw [sL_len]; exact hi)
    · rintro σ H' ⟨e, _⟩; exact itl_stop (SqL.of (e _ _ hq)) (sL_len _)
    · rintro i x σ H3 _ hi ⟨e3, b, wds, ys, u, v, hb, hp, hl, hs, hd, rfl⟩ ⟨rfl, hx⟩
      rename Hp => H3
      obtain ⟨n, hni⟩ : ∃ n, ns[i]? = some n := ⟨_, List.getElem?_eq_getElem hi⟩
      have hx' := hx _ (SqL.of (e3 _ _ hq))
      rw [sL, List.getElem?_map, hni] at hx'
      cases hx'
      have l32 : wds.length ≤ 32 := by
        rw [hl]
        calc 2 ^ i ≤ 2 ^ 5 := Nat.pow_le_pow_right (by decide) (by omega)
          _ = 32 := rfl
      refine ⟨_, rfl, _, rfl, b, rfl, ⟨_, SqL.of hb⟩, ?_⟩
      refine lcY wds (fun wd v H => LstV H (wd ++ [n]) v) (by omega) (fun wd v G G' e h => by obtain ⟨t, h1, h2⟩ := h; exact ⟨t, h1, e _ _ h2⟩) ?_ ?_ ?_ ?_
      · intro j H' hj e; exact itl_go (SqL.of (e _ _ hb)) (by rw [← paired_len hp]; exact hj)
      · intro H' e; exact itl_stop (SqL.of (e _ _ hb)) (paired_len hp).symm
      · intro j wd D x G1 G2 hj nD hD e y Ry Rn hy
        obtain ⟨rfl, hx⟩ := y
        have hx' := hx _ (SqL.of (off_le _ _ (e _ _ hb)))
        obtain ⟨v, hv, t, rfl, htu⟩ := paired_getL hp hj
        rw [hv] at hx'
        cases hx'
        have ht1 := off_le _ _ (e _ _ htu)
        have lw := hs wd (List.mem_of_getElem? hj)
        refine ⟨rfl, _, rfl, _, rfl, le_line (by show (1 : Nat) ≤ 100000; decide), fun c nc => ⟨t, c, _, _, rfl, rfl, same_upd nc _ _ ht1, upd_same, le_line (by rw [sL_len]; show wd.length + 1 ≤ 100000; omega), fun c2 nc2 => ?_⟩⟩
        have s2 : Same G2 (upd (upd G2 c (.lst [.str n])) c2 (.lst (sL wd ++ [.str n]))) := (same_upd nc).trans (same_upd nc2)
        refine hy _ _ s2 ⟨c2, rfl, ?_⟩
        have nG := s2
        have c2D : c2 ≠ D := fun z => by
          cases h : G2 D with
          | none => exact absurd h hD
          | some o =>
            have := same_upd (o := .lst [.str n]) nc _ _ h
            rw [← z, nc2] at this
            cases this
        rw [off_ne c2D, upd_same]
        simp [sL]
      intro D G zs nD e4 hD hp2
      have s4 : Same H3 G := e4.trans off_le
      refine ⟨b, D, ys, zs, rfl, rfl, s4 _ _ hb, hD, le_line (by rw [← paired_len hp, ← paired_len hp2]; omega), fun r nr => ?_⟩
      have sr : Same H3 (upd G r (.lst (ys ++ zs))) := s4.trans (same_upd nr)
      refine ⟨e3.trans sr, r, wds ++ wds.map (fun wd => wd ++ [n]), ys ++ zs, _, _, upd_same, ?_, ?_, ?_, ?_, rfl⟩
      · refine paired_append (paired_mono hp fun wd v h => ?_) (paired_map_left (g := fun wd => wd ++ [n]) (paired_mono hp2 fun wd v h => ?_))
        · obtain ⟨t, h1, h2⟩ := h; exact ⟨t, h1, sr _ _ h2⟩
        · obtain ⟨t, h1, h2⟩ := h; exact ⟨t, h1, same_upd nr _ _ (off_le _ _ h2)⟩
      · rw [List.length_append, List.length_map, hl, Nat.pow_succ]; omega
      · intro wd hwd
        rcases List.mem_append.mp hwd with z | z
        · have := hs wd z; omega
        · obtain ⟨w0, h0, rfl⟩ := List.mem_map.mp z
          have := hs w0 h0
          rw [List.length_append, List.length_singleton]; omega
      · intro wd
        obtain ⟨wd', hm, hh⟩ := hd wd
        rw [take_snoc hni]
        by_cases hin : n ∈ wd
        · refine ⟨wd' ++ [n], List.mem_append_right _ (List.mem_map.mpr ⟨wd', hm, rfl⟩), fun m => ?_⟩
          have := hh m
          simp only [List.mem_append, List.mem_singleton, ← this]
          constructor
          · rintro ⟨g1, g2 | g2⟩
            · exact .inl ⟨g1, g2⟩
            · exact .inr g2
          · rintro (⟨g1, g2⟩ | g2)
            · exact ⟨g1, .inl g2⟩
            · exact ⟨by rw [g2]; exact hin, .inr g2⟩
        · refine ⟨wd', List.mem_append_left _ hm, fun m => ?_⟩
          rw [← hh m]
          simp only [List.mem_append, List.mem_singleton]
          constructor
          · rintro ⟨g1, g2 | g2⟩
            · exact ⟨g1, g2⟩
            · exact absurd (g2 ▸ g1) hin
          · rintro ⟨g1, g2⟩
            exact ⟨g1, .inl g2⟩
    · rintro σ H3 ⟨e3, b, wds, ys, u, v, hb, hp, hl, hs, hd, rfl⟩
      rw [List.take_length] at hd
      refine ⟨_, rfl, k _ b wds ys (e1.trans (e2.trans e3)) ?_ (fun wd => ?_) hb hp⟩
      · rw [hl]
        calc 2 ^ ns.length ≤ 2 ^ 6 := Nat.pow_le_pow_right (by decide) ln
          _ = 64 := rfl
      · obtain ⟨wd', hm, hh⟩ := hd wd
        exact ⟨wd', hm, fun it hi hk => ⟨fun z => (hh _).mp ⟨z, (mn _).mpr ⟨it, hi, hk, rfl⟩⟩, fun z => ((hh _).mpr z).1⟩⟩

def StaV (its : List Item) (H : Hp) (wd : List Str) (v : V) : Prop := ∃ t a d fs, v = .ref t ∧ H t = some (.tup [.ref a, .ref d]) ∧ H a = some (.lst (sL wd)) ∧ H d = some (.dK (trueD fs)) ∧ ∀ n, n ∈ fs ↔ Stands its wd n
theorem StaV.mono {its : List Item} {H H' : Hp} {wd : List Str} {v : V} (h : StaV its H wd v) (e : Same H H') : StaV its H' wd v := by
  obtain ⟨t, a, d, fs, h1, h2, h3, h4, h5⟩ := h
  exact ⟨t, a, d, fs, h1, e _ _ h2, e _ _ h3, e _ _ h4, h5⟩
def sp_all_standing (K : PySem.W.Frag) : Sp := fun vs H Q _ => ∃ (p : Addr) (w : Nat) (its : List Item), vs = [.ref p] ∧ NetAt K H p w its ∧ NetOk w its ∧
  ∀ H' q wds ys, Same H H' → wds.length ≤ 64 → Dense its wds → H' q = some (.lst ys) → Paired (StaV its H') wds ys → Q (.ref q) H'
/-! all_standing: *0:gathered 1:withdrawn -/
abbrev n_all_standing : List Str := ["gathered", "withdrawn"]
theorem sc_all_standing : FnScope n_all_standing ["gathered"] (defScope s_all_standing) := ⟨rfl, rfl, rfl, by decide +kernel, rfl, by decide +kernel, by decide +kernel⟩
theorem c_all_standing (T : Txt K mg) : Cal P w K mg base 6 (He.ga K "all_standing") ["gathered"] (sp_all_standing K) := by
  refine T.d_all_standing.cal sc_all_standing (fun _ _ _ _ _ _ us hl => match us, hl with | [_], _ => rfl) (fun vs H Q E h => ?_) (fun cdv A outer s H vs Q E hr h => ?_)
  · obtain ⟨_, _, _, rfl, _⟩ := h; rfl
  · obtain ⟨p, w, its, rfl, hn, ok, k⟩ := h
    refine ⟨_, (pss_one (ps_ret (pe_lc (own := [("withdrawn", 1)]) (g := gName 1) (tt := tYes) rfl sc_all_standing.nd (kpi_list K (pe_cal (c_all_withdrawn T) (hr.mono (by decide)) (by rfl) T.g_all_withdrawn (pa_cons (pv 0) pa_nil))) (blkOk_by (N := n_all_standing) (sc := defScope s_all_standing) (by decide +kernel)) (fun _ _ _ _ _ => (pg_name (i := 1) sc_all_standing.nd rfl (Or.inl rfl))) (fun _ _ _ _ _ => pts_nil) (fun _ _ _ _ _ => (pe_tup (pa_cons (pv 1) (pa_cons (pe_cal (c_standing_names T) (hr.mono (by decide)) (by rfl) T.g_standing_names (pa_cons (pv 0) (pa_cons (pv 1) pa_nil))) pa_nil))))))), ?_⟩
    refine ⟨_, rfl, p, w, its, rfl, hn, ok, fun H1 q wds ys e1 hl hd hq hp => ⟨q, rfl, ⟨_, SqL.of hq⟩, ?_⟩⟩
    refine lcY wds (fun wd v H => StaV its H wd v) (by omega) (fun wd v G G' e h => h.mono e) ?_ ?_ ?_ ?_
    · intro j H' hj e; exact itl_go (SqL.of (e _ _ hq)) (by rw [← paired_len hp]; exact hj)
    · intro H' e; exact itl_stop (SqL.of (e _ _ hq)) (paired_len hp).symm
    · intro j wd D x G1 G2 hj nD hD e y Ry Rn hy
      obtain ⟨rfl, hx⟩ := y
      have hx' := hx _ (SqL.of (off_le _ _ (e _ _ hq)))
      obtain ⟨v, hv, a, rfl, ha⟩ := paired_getL hp hj
      rw [hv] at hx'
      cases hx'
      have ha1 := e _ _ ha
      refine ⟨rfl, _, rfl, _, rfl, _, rfl, p, a, w, its, wd, rfl, (hn.mono (e1.trans e)).mono off_le, ok, off_le _ _ ha1, fun G3 d fs e3 nd hdd hfs => ?_⟩
      refine ⟨le_line (by show (2 : Nat) ≤ 100000; decide), fun t nt => ?_⟩
      have oD : ∃ o, G2 D = some o := by
        cases h : G2 D with
        | none => exact absurd h hD
        | some o => exact ⟨o, rfl⟩
      obtain ⟨o, oD⟩ := oD
      have s4 : Same G2 (upd G3 t (.tup [.ref a, .ref d])) := e3.trans (same_upd nt)
      have tD : t ≠ D := fun z => by rw [z, e3 _ _ oD] at nt; cases nt
      have dD : d ≠ D := fun z => by rw [z, oD] at nd; cases nd
      have aD : a ≠ D := fun z => by rw [z, off_at] at ha1; cases ha1
      refine hy _ _ s4 ⟨t, a, d, fs, rfl, by rw [off_ne tD, upd_same], ?_, ?_, hfs⟩
      · rw [off_ne aD]; exact s4 _ _ (off_le _ _ ha1)
      · rw [off_ne dD]; exact same_upd nt _ _ hdd
    intro D G zs nD e4 hD hp2
    exact k _ D wds zs (e1.trans (e4.trans off_le)) hl hd hD (paired_mono hp2 fun wd v h => h.mono off_le)
end
end Cw

/-! CwQ -/
set_option Elab.async false
set_option linter.all false
set_option maxRecDepth 100000
set_option maxHeartbeats 4000000
namespace Cw
open PySem PySem.Spec PyProof.Rows L2
section
variable {P : Program} {w : World} {K : PySem.W.Frag} {mg : Str → Option Value} {base : Heap}
/-! rings -/
theorem first_at {l : List Str} {y : Str} (h : y ∈ l) : ∃ j : Nat, l[j]? = some y ∧ ∀ m z, m < j → l[m]? = some z → z ≠ y := by
  induction l with
  | nil => simp at h
  | cons x r ih =>
    by_cases e : x = y
    · exact ⟨0, by rw [e]; rfl, fun m z hm => by omega⟩
    · obtain ⟨j, h1, h2⟩ := ih ((List.mem_cons.mp h).resolve_left fun z => e z.symm)
      refine ⟨j + 1, h1, fun m z hm hz => ?_⟩
      cases m with
      | zero => have : x = z := Option.some.inj hz
                rw [← this]; exact e
      | succ m => exact h2 m z (by omega) hz
def sp_ring_from (K : PySem.W.Frag) : Sp := fun vs H Q _ => ∃ (p d : Addr) (w : Nat) (its : List Item) (h a : Str) (fs wd : List Str), vs = [.ref p, .str h, .str a, .ref d] ∧ NetAt K H p w its ∧ NetOk w its ∧ H d = some (.dK (trueD fs)) ∧ (∀ n, n ∈ fs ↔ Stands its wd n) ∧
  ∀ H' q xs, Same H H' → H' q = some (.lst xs) → (xs = [] ↔ ¬ Rings (step its wd a) h) → Q (.ref q) H'
/-! ring_from: 0:gathered 1:hop 2:address 3:standing 4:again 5:way 6:end -/
abbrev n_ring_from : List Str := ["gathered", "hop", "address", "standing", "again", "way", "end"]
theorem sc_ring_from : FnScope n_ring_from ["gathered", "hop", "address", "standing"] (defScope s_ring_from) := ⟨rfl, rfl, rfl, by decide +kernel, rfl, by decide +kernel, by decide +kernel⟩
theorem c_ring_from (T : Txt K mg) : Cal P w K mg base 5 (He.ga K "ring_from") ["gathered", "hop", "address", "standing"] (sp_ring_from K) := by
  refine T.d_ring_from.cal sc_ring_from (fun _ _ _ _ _ _ us hl => match us, hl with | [_, _, _, _], _ => rfl) (fun vs H Q E h => ?_) (fun cdv A outer s H vs Q E hr h => ?_)
  · obtain ⟨_, _, _, _, _, _, _, _, rfl, _⟩ := h; rfl
  · obtain ⟨p, d, w, its, h, a, fs, wd, rfl, hn, ok, hd, hfs, k⟩ := h
    refine ⟨_, (pss_cons (ps_asg (pe_cal (c_way_under T) (hr.mono (by decide)) (by rfl) T.g_way_under (pa_cons (pv 0) (pa_cons (pv 1) (pa_cons (pv 2) (pa_cons (pv 3) pa_nil))))) (kpg_tup K (n := 2) rfl (pgs_cons (pg_name (i := 5) sc_ring_from.nd rfl (Or.inl rfl)) (pgs_cons (pg_name (i := 6) sc_ring_from.nd rfl (Or.inl rfl)) pgs_nil))))
      (pss_cons (ps_if (pt_cmpR op_ne (pv 6) pe_str (nomark _))
        (pss_one (ps_ret (pe_lst pa_nil))) pss_nil)
      (pss_cons (ps_set (i := 4) sc_ring_from.nd rfl (Or.inl rfl) (pe_cal (c_step_under T) (hr.mono (by decide)) (by rfl) T.g_step_under (pa_cons (pv 0) (pa_cons (pe_ix (kix_list K) (pv 5) (pe_un un_neg pe_int) (fun _ _ => rfl)) (pa_cons (pv 2) (pa_cons (pv 3) pa_nil))))))
      (pss_one (ps_ret (pe_slice (ksl_list K) (pv 5) (po_some (kpe_bm K PySem.F.plainAttrs_list PySem.F.slot_list_index PySem.F.type_list_index (kmt_index K) (pv 5) (pa_cons (pv 4) pa_nil))) po_none)))))), ?_⟩
    refine ⟨_, rfl, _, rfl, _, rfl, _, rfl, p, d, w, its, h, a, fs, wd, rfl, hn, ok, hd, hfs, fun H1 q l ws t e1 hq hl hr h7 ch he => ?_⟩
    obtain ⟨r, er⟩ := hr
    have hring := ends_ring er ch he
    refine ⟨_, _, rfl, .inl (.inl hq), rfl, _, _, rfl, _, _, rfl, rfl, ?_⟩
    refine ⟨_, rfl, rfl, _, rfl, ?_⟩
    by_cases ht : t = "ring"
    · have hR := hring.mp ht
      subst ht
      rw [decide_eq_true rfl]
      refine iteF ?_
      obtain ⟨x, hx, ⟨hend, et⟩ | ⟨hend, hm, _⟩⟩ := he
      · exfalso
        rcases hend with q | q <;> (rw [← et] at q; exact absurd q (by decide +kernel))
      refine ⟨_, rfl, _, rfl, 1, rfl, l, _, _, _, rfl, rfl, SqL.of hl, atI_last (sL_last hx), _, rfl, _, rfl, p, d, w, its, x, a, fs, wd, rfl, hn.mono e1, ok, e1 _ _ hd, hfs, fun H2 e2 => ?_⟩
      obtain ⟨j, hj, hj2⟩ := first_at hm
      refine ⟨_, rfl, _, rfl, .inl ⟨rfl, _, SqL.of (e2 _ _ hl)⟩, _, rfl, l, sL ws, .str (step its wd a x), j, .str (step its wd a x), rfl, rfl, SqL.of (e2 _ _ hl), rfl, flat_str _, ?_, ?_, ?_, ?_⟩
      · rw [sL, List.getElem?_map, hj]; rfl
      · exact decide_eq_true rfl
      · intro m z hm' hz
        rw [sL, List.getElem?_map] at hz
        cases hz2 : ws[m]? with
        | none => rw [hz2] at hz; cases hz
        | some z2 =>
          rw [hz2] at hz
          cases hz
          exact decide_eq_false (fun q => hj2 m z2 hm' hz2 q)
      refine ⟨_, rfl, l, _, rfl, SqL.of (e2 _ _ hl), fun c nc => k _ c _ (e1.trans (e2.trans (same_upd nc))) upd_same ⟨fun z => ?_, fun z => absurd hR z⟩⟩
      exfalso
      have hlt : j < ws.length := (List.getElem?_eq_some_iff.mp hj).1
      have hz : (cutV (sL ws) (some ((j : Nat) : Int)) none).length = ws.length - j := by
        unfold cutV
        rw [HT.sIx_none, HT.sIx_nat, sL_len]
        simp [sL]
        omega
      rw [z] at hz
      simp at hz
      omega
    · rw [decide_eq_false (fun z => ht (V.str.inj z))]
      exact iteT ⟨le_line (by show (0 : Nat) ≤ 100000; decide), fun c nc => k _ c [] (e1.trans (same_upd nc)) upd_same ⟨fun _ z => ht (hring.mpr z), fun _ => rfl⟩⟩

def sp_first_ring (K : PySem.W.Frag) : Sp := fun vs H Q _ => ∃ (p d : Addr) (w : Nat) (its : List Item) (a : Str) (fs wd : List Str), vs = [.ref p, .str a, .ref d] ∧ NetAt K H p w its ∧ NetOk w its ∧ H d = some (.dK (trueD fs)) ∧ (∀ n, n ∈ fs ↔ Stands its wd n) ∧
  ∀ H' q xs, Same H H' → H' q = some (.lst xs) → (xs = [] ↔ ∀ h, ¬ Rings (step its wd a) h) → Q (.ref q) H'
/-! first_ring: 0:gathered 1:address 2:standing 3:hop 4:ring -/
abbrev n_first_ring : List Str := ["gathered", "address", "standing", "hop", "ring"]
theorem sc_first_ring : FnScope n_first_ring ["gathered", "address", "standing"] (defScope s_first_ring) := ⟨rfl, rfl, rfl, by decide +kernel, rfl, by decide +kernel, by decide +kernel⟩
theorem c_first_ring (T : Txt K mg) : Cal P w K mg base 6 (He.ga K "first_ring") ["gathered", "address", "standing"] (sp_first_ring K) := by
  refine T.d_first_ring.cal sc_first_ring (fun _ _ _ _ _ _ us hl => match us, hl with | [_, _, _], _ => rfl) (fun vs H Q E h => ?_) (fun cdv A outer s H vs Q E hr h => ?_)
  · obtain ⟨_, _, _, _, _, _, _, rfl, _⟩ := h; rfl
  · obtain ⟨p, d, w, its, a, fs, wd, rfl, hn, ok, hd, hfs, k⟩ := h
    refine ⟨_, (pss_cons (ps_for PassesOwn.never rfl (kpi_list K (pe_met0 (pv 0) (im_Gathered_hops T) (c_Gathered_hops T) (hr.mono (by decide)))) (pg_name (i := 3) sc_first_ring.nd rfl (Or.inl rfl))
        (pss_cons (ps_set (i := 4) sc_first_ring.nd rfl (Or.inl rfl) (pe_cal (c_ring_from T) (hr.mono (by decide)) (by rfl) T.g_ring_from (pa_cons (pv 0) (pa_cons (pv 3) (pa_cons (pv 1) (pa_cons (pv 2) pa_nil))))))
        (pss_one (ps_if (pt_cmpR (op_neNil K hr.units0) (pv 4) (pe_lst pa_nil) (nomark _))
          (pss_one (ps_ret (pv 4))) pss_nil))))
      (pss_one (ps_ret (pe_lst pa_nil)))), ?_⟩
    refine ⟨_, rfl, net_met hn (by decide +kernel) ⟨p, w, its, rfl, hn, ok, fun H1 q ys e1 nq nd mn hq => ⟨q, rfl, ⟨_, SqL.of hq⟩, ?_⟩⟩⟩
    refine forG ys.length (fun i σ H' => Same H1 H' ∧ (∀ h ∈ ys.take i, ¬ Rings (step its wd a) h) ∧ ∃ u v, σ = [some (.ref p), some (.str a), some (.ref d), u, v]) ⟨Same.refl _, by simp, _, _, rfl⟩ ?_ ?_ ?_ ?_
    · rintro i σ H' hi ⟨e, _⟩; exact itl_go (SqL.of (e _ _ hq)) (by rw [sL_len]; exact hi)
    · rintro σ H' ⟨e, _⟩; exact itl_stop (SqL.of (e _ _ hq)) (sL_len _)
    · rintro i x σ H3 _ hi ⟨e3, hno, u, v, rfl⟩ ⟨rfl, hx⟩
      rename Hp => H3
      obtain ⟨h, hh⟩ : ∃ h, ys[i]? = some h := ⟨_, List.getElem?_eq_getElem hi⟩
      have hx' := hx _ (SqL.of (e3 _ _ hq))
      rw [sL, List.getElem?_map, hh] at hx'
      cases hx'
      have s3 := e1.trans e3
      refine ⟨_, rfl, _, rfl, _, rfl, _, rfl, p, d, w, its, h, a, fs, wd, rfl, hn.mono s3, ok, s3 _ _ hd, hfs, fun H4 q2 xs e4 hq2 hx2 => ?_⟩
      refine ⟨_, rfl, le_line (by show (0 : Nat) ≤ 100000; decide), fun l nl => ⟨q2, l, xs, rfl, rfl, SqL.of (same_upd nl _ _ hq2), SqL.of upd_same, _, rfl, ?_⟩⟩
      by_cases hR : Rings (step its wd a) h
      · have : xs.isEmpty = false := by
          cases xs with
          | nil => exact absurd hR (hx2.mp rfl)
          | cons _ _ => rfl
        rw [this]
        refine iteT ⟨_, rfl, k _ q2 xs (s3.trans (e4.trans (same_upd nl))) (same_upd nl _ _ hq2) ⟨fun z => ?_, fun z => absurd hR (z h)⟩⟩
        exact absurd hR (hx2.mp z)
      · have := hx2.mpr hR
        subst this
        refine iteF ⟨e3.trans (e4.trans (same_upd nl)), ?_, _, _, rfl⟩
        rw [take_snoc hh]
        intro z hz
        rcases List.mem_append.mp hz with y | y
        · exact hno z y
        · rw [List.mem_singleton.mp y]; exact hR
    · rintro σ H3 ⟨e3, hno, u, v, rfl⟩
      rw [List.take_length] at hno
      refine ⟨le_line (by show (0 : Nat) ≤ 100000; decide), fun c nc => k _ c [] (e1.trans (e3.trans (same_upd nc))) upd_same ⟨fun _ h hR => ?_, fun _ => rfl⟩⟩
      have h0 : ¬ isEnd (step its wd a h) := hR 0
      obtain ⟨it, hi, _, _, _, hp⟩ := step_on (fun it hi => (ok.ok it hi).way) h0
      exact hno h ((mn h).mpr ⟨it, hi, .inl (List.mem_map.mpr ⟨_, hp, rfl⟩)⟩) hR

def sp_round_paper (K : PySem.W.Frag) : Sp := fun vs H Q _ => ∃ (p : Addr) (w : Nat) (its : List Item), vs = [.ref p] ∧ NetAt K H p w its ∧ NetOk w its ∧ ∀ H' v, Same H H' → (v = .non ↔ Safe its w) → Q v H'
/-! round_paper: 0:gathered 1:withdrawn 2:standing 3:stretch 4:number 5:address 6:ring -/
abbrev n_round_paper : List Str := ["gathered", "withdrawn", "standing", "stretch", "number", "address", "ring"]
theorem sc_round_paper : FnScope n_round_paper ["gathered"] (defScope s_round_paper) := ⟨rfl, rfl, rfl, by decide +kernel, rfl, by decide +kernel, by decide +kernel⟩
theorem c_round_paper (T : Txt K mg) : Cal P w K mg base 7 (He.ga K "round_paper") ["gathered"] (sp_round_paper K) := by
  refine T.d_round_paper.cal sc_round_paper (fun _ _ _ _ _ _ us hl => match us, hl with | [_], _ => rfl) (fun vs H Q E h => ?_) (fun cdv A outer s H vs Q E hr h => ?_)
  · obtain ⟨_, _, _, rfl, _⟩ := h; rfl
  · obtain ⟨p, w, its, rfl, hn, ok, k⟩ := h
    refine ⟨_, (pss_cons (ps_for PassesOwn.never rfl (kpi_list K (pe_cal (c_all_standing T) (hr.mono (by decide)) (by rfl) T.g_all_standing (pa_cons (pv 0) pa_nil))) (kpg_tup K (n := 2) rfl (pgs_cons (pg_name (i := 1) sc_round_paper.nd rfl (Or.inl rfl)) (pgs_cons (pg_name (i := 2) sc_round_paper.nd rfl (Or.inl rfl)) pgs_nil)))
        (pss_one (ps_for PassesOwn.never rfl (kpi_list K (pe_cal (c_full_cells T) (hr.mono (by decide)) (by rfl) T.g_full_cells (pa_cons (pv 0) pa_nil))) (kpg_tup K (n := 3) rfl (pgs_cons (pg_name (i := 3) sc_round_paper.nd rfl (Or.inl rfl)) (pgs_cons (pg_name (i := 4) sc_round_paper.nd rfl (Or.inl rfl)) (pgs_cons (pg_name (i := 5) sc_round_paper.nd rfl (Or.inl rfl)) pgs_nil))))
          (pss_cons (ps_set (i := 6) sc_round_paper.nd rfl (Or.inl rfl) (pe_cal (c_first_ring T) (hr.mono (by decide)) (by rfl) T.g_first_ring (pa_cons (pv 0) (pa_cons (pv 5) (pa_cons (pv 2) pa_nil)))))
          (pss_one (ps_if (pt_cmpR (op_neNil K hr.units0) (pv 6) (pe_lst pa_nil) (nomark _))
            (pss_one (ps_ret (pe_tup (pa_cons (pv 5) (pa_cons (pv 1) (pa_cons (pv 6) pa_nil)))))) pss_nil))))))
      (pss_one (ps_ret pe_non))), ?_⟩
    refine ⟨_, rfl, p, w, its, rfl, hn, ok, fun H1 q wds ys e1 l64 dn hq hp => ⟨q, rfl, ⟨_, SqL.of hq⟩, ?_⟩⟩
    have hst : ∀ S rs, Tops w its S rs → ∀ it ∈ its, it.st ∈ S := fun S rs ht it hi => (ht.1 _).mpr (.inl ⟨it, hi, rfl⟩)
    have none_of : ∀ wd, (∃ S rs, Tops w its S rs ∧ ∀ r ∈ rs, 0 < r.2.1 → ∀ h, ¬ Rings (step its wd (adr w r.2.2)) h) → ∀ a, IsAd w a → ∀ h, ¬ Rings (step its wd a) h := by
      rintro wd ⟨S, rs, ht, hr⟩ a ha h
      obtain ⟨s, hs, hsa, hsame, hpos⟩ := adr_row ht.2.st ht.2.e0 ha
      rw [← ht.2.ks] at hs
      obtain ⟨r, hrm, rfl⟩ := List.mem_map.mp hs
      have h0 := hpos (ht.2.rc r hrm)
      have := hr r hrm h0 h
      rwa [← step_at (a := a) (b := adr w r.2.2)] at this
      intro it hi
      rw [hsame _ (hst S rs ht it hi), row_adr ht.2.st (by rw [← ht.2.ks]; exact hs) (ht.2.rc r hrm) h0 _ (hst S rs ht it hi)]
    refine forG wds.length (fun i σ H' => Same H1 H' ∧ (∀ wd ∈ wds.take i, ∀ a, IsAd w a → ∀ h, ¬ Rings (step its wd a) h) ∧ ∃ u1 u2 u3 u4 u5 u6, σ = [some (.ref p), u1, u2, u3, u4, u5, u6]) ⟨Same.refl _, by simp, _, _, _, _, _, _, rfl⟩ ?_ ?_ ?_ ?_
    · rintro i σ H' hi ⟨e, _⟩; exact itl_go (SqL.of (e _ _ hq)) (by rw [← paired_len hp]; exact hi)
    · rintro σ H' ⟨e, _⟩; exact itl_stop (SqL.of (e _ _ hq)) (paired_len hp).symm
    · rintro i x σ H3 _ hi ⟨e3, hno, u1, u2, u3, u4, u5, u6, rfl⟩ ⟨rfl, hx⟩
      rename Hp => H3
      obtain ⟨wd, hwd⟩ : ∃ wd, wds[i]? = some wd := ⟨_, List.getElem?_eq_getElem hi⟩
      have hx' := hx _ (SqL.of (e3 _ _ hq))
      obtain ⟨v, hv, t, aw, d, fs, rfl, ht, haw, hd, hfs⟩ := paired_getL hp hwd
      rw [hv] at hx'
      cases hx'
      refine ⟨_, _, rfl, .inl (.inl (e3 _ _ ht)), rfl, _, _, rfl, _, _, rfl, rfl, ?_⟩
      have s3 := e1.trans e3
      refine ⟨_, rfl, p, w, its, rfl, hn.mono s3, ok, fun H4 q2 S rs zs e4 hT hl hq2 hp2 => ⟨q2, rfl, ⟨_, SqL.of hq2⟩, ?_⟩⟩
      have hok : ∀ r ∈ rs, 0 < r.2.1 → r.2.2 < 2 ^ w := fun r hr h0 => by
        obtain ⟨_, h2, _⟩ := rec_yes (hT.2.rc r hr) h0
        have hS : r.1 ∈ S := by rw [← hT.2.ks]; exact List.mem_map.mpr ⟨r, hr, rfl⟩
        exact Nat.lt_of_lt_of_le h2 (bg_lt (hT.2.st _ hS).2)
      generalize hfr : (rs.filter fun r => decide (0 < r.2.1)) = fr at hp2
      have mfr : ∀ r, r ∈ fr ↔ r ∈ rs ∧ 0 < r.2.1 := fun r => by rw [← hfr, List.mem_filter, decide_eq_true_iff]
      refine forG fr.length (fun i σ H' => Same H4 H' ∧ (∀ r ∈ fr.take i, ∀ h, ¬ Rings (step its wd (adr w r.2.2)) h) ∧ ∃ u3 u4 u5 u6, σ = [some (.ref p), some (.ref aw), some (.ref d), u3, u4, u5, u6]) ⟨Same.refl _, by simp, _, _, _, _, rfl⟩ ?_ ?_ ?_ ?_
      · rintro j σ H' hi ⟨e, _⟩; exact itl_go (SqL.of (e _ _ hq2)) (by rw [← paired_len hp2]; exact hi)
      · rintro σ H' ⟨e, _⟩; exact itl_stop (SqL.of (e _ _ hq2)) (paired_len hp2).symm
      · rintro j x σ H5 _ hj ⟨e5, hno5, u3, u4, u5, u6, rfl⟩ ⟨rfl, hx⟩
        rename Hp => H5
        obtain ⟨r, hr⟩ : ∃ r, fr[j]? = some r := ⟨_, List.getElem?_eq_getElem hj⟩
        have hx' := hx _ (SqL.of (e5 _ _ hq2))
        obtain ⟨v, hv, t2, rfl, ht2⟩ := paired_getL hp2 hr
        rw [hv] at hx'
        cases hx'
        obtain ⟨rm, r0⟩ := (mfr r).mp (List.mem_of_getElem? hr)
        rw [if_pos r0] at ht2
        refine ⟨_, _, rfl, .inl (.inl (e5 _ _ ht2)), rfl, _, _, rfl, _, _, rfl, _, _, rfl, rfl, ?_⟩
        have s5 : Same H3 H5 := e4.trans e5
        refine ⟨_, rfl, _, rfl, _, rfl, p, d, w, its, adr w r.2.2, fs, wd, rfl, hn.mono (s3.trans s5), ok, s5 _ _ (e3 _ _ hd), hfs, fun H6 q3 xs e6 hq3 hx3 => ?_⟩
        refine ⟨_, rfl, le_line (by show (0 : Nat) ≤ 100000; decide), fun l nl => ⟨q3, l, xs, rfl, rfl, SqL.of (same_upd nl _ _ hq3), SqL.of upd_same, _, rfl, ?_⟩⟩
        have e7 : Same H5 (upd H6 l (.lst [])) := e6.trans (same_upd nl)
        by_cases hR : xs = []
        · subst hR
          refine iteF ⟨e5.trans e7, ?_, _, _, _, _, rfl⟩
          rw [take_snoc hr]
          intro z hz
          rcases List.mem_append.mp hz with y | y
          · exact hno5 z y
          · rw [List.mem_singleton.mp y]; exact hx3.mp rfl
        · have : xs.isEmpty = false := by cases xs with
            | nil => exact absurd rfl hR
            | cons _ _ => rfl
          rw [this]
          refine iteT ⟨_, rfl, _, rfl, _, rfl, le_line (by show (3 : Nat) ≤ 100000; decide), fun u nu => k _ _ ((s3.trans s5).trans (e7.trans (same_upd nu))) ⟨fun z => (nomatch z), fun sf => ?_⟩⟩
          exact absurd (hx3.mpr fun h => sf wd _ (adr_ok w _) h) hR
      · rintro σ H5 ⟨e5, hno5, u3, u4, u5, u6, rfl⟩
        rw [List.take_length] at hno5
        refine ⟨e3.trans (e4.trans e5), ?_, _, _, _, _, _, _, rfl⟩
        rw [take_snoc hwd]
        intro z hz
        rcases List.mem_append.mp hz with y | y
        · exact hno z y
        · rw [List.mem_singleton.mp y]
          exact none_of wd ⟨S, rs, hT, fun r hr h0 => hno5 r ((mfr r).mpr ⟨hr, h0⟩)⟩
    · rintro σ H3 ⟨e3, hno, u1, u2, u3, u4, u5, u6, rfl⟩
      rw [List.take_length] at hno
      refine k _ _ (e1.trans e3) ⟨fun _ => ?_, fun _ => rfl⟩
      intro wd a ha h
      obtain ⟨wd', hm, hh⟩ := dn wd
      rw [step_wd hh]
      exact hno wd' hm a ha h

def sp_is_safe (K : PySem.W.Frag) : Sp := fun vs H Q _ => ∃ (p : Addr) (w : Nat) (its : List Item), vs = [.ref p] ∧ NetAt K H p w its ∧ NetOk w its ∧ ∀ H' b, Same H H' → (b = true ↔ Safe its w) → Q (.bl b) H'
/-! is_safe: 0:gathered -/
abbrev n_is_safe : List Str := ["gathered"]
theorem sc_is_safe : FnScope n_is_safe ["gathered"] (defScope s_is_safe) := ⟨rfl, rfl, rfl, by decide +kernel, rfl, by decide +kernel, by decide +kernel⟩
theorem c_is_safe (T : Txt K mg) : Cal P w K mg base 8 (He.ga K "is_safe") ["gathered"] (sp_is_safe K) := by
  refine T.d_is_safe.cal sc_is_safe (fun _ _ _ _ _ _ us hl => match us, hl with | [_], _ => rfl) (fun vs H Q E h => ?_) (fun cdv A outer s H vs Q E hr h => ?_)
  · obtain ⟨_, _, _, rfl, _⟩ := h; rfl
  · obtain ⟨p, w, its, rfl, hn, ok, k⟩ := h
    refine ⟨_, (pss_one (ps_ret (pe_cmpR op_isN (pe_cal (c_round_paper T) (hr.mono (by decide)) (by rfl) T.g_round_paper (pa_cons (pv 0) pa_nil)) pe_non (nomark _)))), ?_⟩
    exact ⟨_, rfl, p, w, its, rfl, hn, ok, fun H' v e hv => ⟨rfl, k _ _ e (by rw [decide_eq_true_iff]; exact hv)⟩⟩
end
end Cw

/-! CwR -/
set_option Elab.async false
set_option linter.all false
set_option maxRecDepth 100000
set_option maxHeartbeats 4000000
namespace Cw
open PySem PySem.Spec PyProof.Rows L2
section
variable {P : Program} {w : World} {K : PySem.W.Frag} {mg : Str → Option Value} {base : Heap}
/-! the pot -/
def PotAt (H : Hp) (a : Addr) : Prop := ∃ x y : Int, H a = some (.lst [.int x, .int y]) ∧ 0 ≤ x ∧ 0 ≤ y ∧ y < 2147483544
theorem PotAt.mono {H H' : Hp} {a : Addr} (h : PotAt H a) (e : Same H H') : PotAt H' a := by
  obtain ⟨x, y, h1, h2⟩ := h
  exact ⟨x, y, e _ _ h1, h2⟩
/-- all but the pot stands, and the pot is one -/
def Go (a : Addr) (H H' : Hp) : Prop := Same (off a H) (off a H') ∧ PotAt H' a
theorem Go.trans {a : Addr} {H H1 H2 : Hp} (x : Go a H H1) (y : Go a H1 H2) : Go a H H2 := ⟨x.1.trans y.1, y.2⟩
theorem Go.of {a : Addr} {H H' : Hp} (e : Same H H') (h : PotAt H a) : Go a H H' := ⟨off_mono e, h.mono e⟩
theorem Go.step {a : Addr} {H H1 H2 : Hp} (x : Go a H H1) (e : Same H1 H2) : Go a H H2 := x.trans (Go.of e x.2)
theorem Go.at {a b : Addr} {H H' : Hp} {o : HO} (x : Go a H H') (h : off a H b = some o) : H' b = some o := off_le _ _ (x.1 _ _ h)
theorem off_none {a b : Addr} {H : Hp} (h : off a H b = none) (hb : b ≠ a) : H b = none := by rwa [off_ne hb] at h
theorem Go.free {a p : Addr} {H H' : Hp} (x : Go a H H') (h : H' p = none) : off a H p = none := x.1.free (by
  by_cases z : p = a
  · rw [z, off_at]
  · rw [off_ne z]; exact h)
theorem Go.new {a p : Addr} {H H' : Hp} (x : Go a H H') (h : H' p = none) : p ≠ a := fun z => by
  obtain ⟨_, _, h1, _⟩ := x.2
  rw [z, h1] at h; cases h
theorem PotAt.new {a p : Addr} {H : Hp} (x : PotAt H a) (h : H p = none) : p ≠ a := fun z => by
  obtain ⟨_, _, h1, _⟩ := x
  rw [z, h1] at h; cases h
def sp_law_pot (K : PySem.W.Frag) : Sp := fun vs H Q _ => ∃ (s : Addr) (xs : List Int) (k : Nat), vs = [.ref s, .int k] ∧ SqL K H s (xs.map V.int) ∧ k ≤ 10 ∧ ∀ H' a, Same H H' → H a = none → PotAt H' a → Q (.ref a) H'
/-! _law_pot: 0:_law_script 1:_law_k 2:_law_cell -/
abbrev n_law_pot : List Str := ["_law_script", "_law_k", "_law_cell"]
theorem sc_law_pot : FnScope n_law_pot ["_law_script", "_law_k"] (defScope s_law_pot) := ⟨rfl, rfl, rfl, by decide +kernel, rfl, by decide +kernel, by decide +kernel⟩
theorem c_law_pot (T : Txt K mg) : Cal P w K mg base 1 (He.ga K "_law_pot") ["_law_script", "_law_k"] (sp_law_pot K) := by
  refine T.d_law_pot.cal sc_law_pot (fun _ _ _ _ _ _ us hl => match us, hl with | [_, _], _ => rfl) (fun vs H Q E h => ?_) (fun cdv A outer s H vs Q E hr h => ?_)
  · obtain ⟨_, _, _, rfl, _⟩ := h; rfl
  · obtain ⟨s0, xs, kk, rfl, hs, hk, k⟩ := h
    refine ⟨_, (pss_cons (ps_set (i := 2) sc_law_pot.nd rfl (Or.inl rfl) (pe_op op_add (pe_op op_mul pe_int (pv 1)) pe_int))
      (pss_cons (ps_if (pt_cmpR op_lt (pv 1) (pe_callB (kcall_len_seq K) (by rfl) T.b_len bt_len (pa_cons (pv 0) pa_nil)) (nomark _))
        (pss_one (ps_set (i := 2) sc_law_pot.nd rfl (Or.inl rfl) (pe_callB call_abs (by rfl) T.b_abs bt_abs (pa_cons (pe_ix (kix_list K) (pv 0) (pv 1) (fun _ _ => rfl)) pa_nil)))) pss_nil)
      (pss_one (ps_ret (pe_lst (pa_cons (pe_callB (call_max2 rfl) (by rfl) T.b_max bt_max (pa_cons pe_int (pa_cons (pe_op op_sub (pv 2) (pe_op op_pow pe_int pe_int)) pa_nil))) (pa_cons (pe_op op_add (pe_op op_mod (pe_callTy call_int1 (by rfl) T.b_int bt_int (pa_cons (pe_op op_add (pe_op op_add (pe_op op_mul (pe_op op_mod (pe_callTy call_int1 (by rfl) T.b_int bt_int (pa_cons (pv 2) pa_nil)) pe_int) pe_int) (pe_op op_mul pe_int (pv 1))) pe_int) pa_nil)) pe_int) pe_int) pa_nil))))))), ?_⟩
    refine ⟨_, rfl, _, _, rfl, rfl, .inl ⟨by decide, by decide⟩, _, _, rfl, rfl, ?_⟩
    refine ⟨_, rfl, _, rfl, s0, _, rfl, .inl (hs), _, _, rfl, rfl, _, rfl, ?_⟩
    rw [List.length_map]
    by_cases hk2 : ((kk : Nat) : Int) < (xs.length : Nat)
    · rw [decide_eq_true hk2]
      obtain ⟨x, hx⟩ : ∃ x, xs[kk]? = some x := ⟨_, List.getElem?_eq_getElem (by omega)⟩
      refine iteT ⟨_, rfl, _, rfl, s0, _, _, .int x, rfl, rfl, hs, ?_, _, rfl, ?_⟩
      · exact atI_nat (by rw [List.getElem?_map, hx]; rfl)
      refine ⟨_, rfl, _, _, rfl, rfl, ⟨by decide, by decide, by decide⟩, _, _, rfl, rfl, _, _, rfl, _, rfl, .inl ⟨_, rfl, _, _, rfl, rfl, (by show (0 : Int) < _; decide), _, _, rfl, rfl, .inr ⟨by decide, by decide⟩, _, rfl, _, _, rfl, rfl, .inl ⟨by decide, by decide⟩, _, _, rfl, rfl, _, _, rfl, rfl, .inl ⟨_, rfl, _, _, rfl, rfl, (by show (0 : Int) < _; decide), _, _, rfl, rfl, le_line (by show (2 : Nat) ≤ 100000; decide), fun a na => ?_⟩⟩⟩
      refine k _ a (same_upd na) na ⟨_, _, upd_same, ?_, ?_, ?_⟩
      · split <;> omega
      · omega
      · omega
    · rw [decide_eq_false hk2]
      refine iteF ?_
      refine ⟨_, rfl, _, _, rfl, rfl, ⟨by decide, by decide, by decide⟩, _, _, rfl, rfl, _, _, rfl, _, rfl, .inl ⟨_, rfl, _, _, rfl, rfl, (by show (0 : Int) < _; decide), _, _, rfl, rfl, .inr ⟨by decide, by decide⟩, _, rfl, _, _, rfl, rfl, .inl ⟨by decide, by decide⟩, _, _, rfl, rfl, _, _, rfl, rfl, .inl ⟨_, rfl, _, _, rfl, rfl, (by show (0 : Int) < _; decide), _, _, rfl, rfl, le_line (by show (2 : Nat) ≤ 100000; decide), fun a na => ?_⟩⟩⟩
      refine k _ a (same_upd na) na ⟨_, _, upd_same, ?_, ?_, ?_⟩
      · split <;> omega
      · omega
      · omega

def sp_law_draw : Sp := fun vs H Q _ => ∃ (a : Addr) (n : Nat), vs = [.ref a, .int n] ∧ PotAt H a ∧ 1 ≤ n ∧ n ≤ 1000 ∧ ∀ H' (d : Nat), Go a H H' → d < n → Q (.int d) H'
/-! _law_draw: 0:_law_pot_here 1:_law_many 2:_law_digit -/
abbrev n_law_draw : List Str := ["_law_pot_here", "_law_many", "_law_digit"]
theorem sc_law_draw : FnScope n_law_draw ["_law_pot_here", "_law_many"] (defScope s_law_draw) := ⟨rfl, rfl, rfl, by decide +kernel, rfl, by decide +kernel, by decide +kernel⟩
theorem c_law_draw (T : Txt K mg) : Cal P w K mg base 1 (He.ga K "_law_draw") ["_law_pot_here", "_law_many"] sp_law_draw := by
  refine T.d_law_draw.cal sc_law_draw (fun _ _ _ _ _ _ us hl => match us, hl with | [_, _], _ => rfl) (fun vs H Q E h => ?_) (fun cdv A outer s H vs Q E hr h => ?_)
  · obtain ⟨_, _, rfl, _⟩ := h; rfl
  · obtain ⟨a, n, rfl, hp, h1, h2, k⟩ := h
    obtain ⟨x, y, ha, hx, hy, hy2⟩ := hp
    refine ⟨_, (pss_cons (ps_if (pt_cmpR op_gt (pe_ix (kix_list K) (pv 0) pe_int (fun _ _ => rfl)) pe_int (nomark _))
        (pss_cons (ps_asg (pe_callB call_divmodW (by rfl) T.b_divmod bt_divmod (pa_cons (pe_ix (kix_list K) (pv 0) pe_int (fun _ _ => rfl)) (pa_cons (pv 1) pa_nil))) (kpg_tup K (n := 2) rfl (pgs_cons (pg_sub (pv 0) pe_int set_list) (pgs_cons (pg_name (i := 2) sc_law_draw.nd rfl (Or.inl rfl)) pgs_nil))))
        (pss_one (ps_ret (pv 2)))) pss_nil)
      (pss_cons (ps_asg (pe_op op_mod (pe_callTy call_int1 (by rfl) T.b_int bt_int (pa_cons (pe_op op_add (pe_op op_mul (pe_ix (kix_list K) (pv 0) pe_int (fun _ _ => rfl)) pe_int) pe_int) pa_nil)) pe_int) (pg_sub (pv 0) pe_int set_list))
      (pss_one (ps_ret (pe_op op_mod (pe_callTy call_int1 (by rfl) T.b_int bt_int (pa_cons (pe_op op_fdiv (pe_op op_mod (pe_callTy call_int1 (by rfl) T.b_int bt_int (pa_cons (pe_op op_mul (pe_ix (kix_list K) (pv 0) pe_int (fun _ _ => rfl)) (pe_ix (kix_list K) (pv 0) pe_int (fun _ _ => rfl))) pa_nil)) pe_int) pe_int) pa_nil)) (pv 1)))))), ?_⟩
    have go : ∀ (H' : Hp) (x' y' : Int), Same (off a H) (off a H') → 0 ≤ x' → 0 ≤ y' → y' < 2147483544 → H' a = some (.lst [.int x', .int y']) → Go a H H' := fun H' x' y' e a1 a2 a3 a4 => ⟨e, x', y', a4, a1, a2, a3⟩
    have nat : ∀ (v : Int) (H' : Hp), Go a H H' → 0 ≤ v → v < n → Q (.int v) H' := fun v H' e v1 v2 => by
      have := k H' v.toNat e (by omega)
      rwa [Int.toNat_of_nonneg v1] at this
    refine ⟨_, rfl, a, _, 0, _, rfl, rfl, SqL.of ha, rfl, x, 0, rfl, rfl, _, rfl, ?_⟩
    by_cases h0 : (0 : Int) < x
    · rw [decide_eq_true h0]
      refine iteT ⟨_, rfl, a, _, 0, _, rfl, rfl, SqL.of ha, rfl, _, rfl, x, (n : Int), rfl, ⟨by omega, PyProof.noPylong_small (by omega)⟩, fun p np => ?_⟩
      have pa : p ≠ a := fun z => by rw [z, ha] at np; cases np
      refine ⟨p, _, rfl, .inl (.inl upd_same), rfl, _, _, rfl, ⟨_, rfl, a, _, 0, 0, rfl, rfl, (same_upd np _ _ ha), rfl, ?_⟩⟩
      refine ⟨_, _, rfl, rfl, _, rfl, nat _ _ (go _ (x / n) y ?_ (Int.ediv_nonneg hx (by omega)) hy hy2 (by rw [upd_same]; rfl)) (Int.emod_nonneg _ (by omega)) (Int.emod_lt_of_pos _ (by omega))⟩
      rw [off_upd]
      exact off_mono (same_upd np)
    · rw [decide_eq_false h0]
      refine iteF ?_
      refine ⟨_, rfl, a, _, 1, _, rfl, rfl, SqL.of ha, rfl, _, _, rfl, rfl, .inr ⟨by decide, by decide⟩, _, _, rfl, rfl, .inl ⟨_, rfl, _, _, rfl, rfl, (by show (0 : Int) < _; decide), ?_⟩⟩
      have m1 : (0 : Int) ≤ (y * 48271 + 20011) % 2147483543 := Int.emod_nonneg _ (by decide)
      have m2 : (y * 48271 + 20011) % 2147483543 < 2147483543 := Int.emod_lt_of_pos _ (by decide)
      refine ⟨_, rfl, a, _, 1, 1, rfl, rfl, ha, rfl, ?_⟩
      have e1 : Same (off a H) (off a (upd H a (.lst ([V.int x, V.int y].set 1 (.int ((y * 48271 + 20011) % 2147483543)))))) := by rw [off_upd]; exact Same.refl _
      refine ⟨_, rfl, a, _, 1, _, rfl, rfl, SqL.of upd_same, rfl, _, rfl, a, _, 1, _, rfl, rfl, SqL.of upd_same, rfl, _, _, rfl, rfl, .inl ⟨by omega, by omega⟩, .inl ⟨_, rfl, _, _, rfl, rfl, (by show (0 : Int) < _; decide), _, _, rfl, rfl, ⟨by decide, by decide⟩, .inl ⟨_, rfl, _, rfl, _, _, rfl, rfl, by show (0 : Int) < (n : Nat); omega, ?_⟩⟩⟩
      exact nat _ _ (go _ x ((y * 48271 + 20011) % 2147483543) e1 hx m1 (by omega) upd_same) (Int.emod_nonneg _ (by omega)) (Int.emod_lt_of_pos _ (by omega))
end
end Cw

/-! CwT -/
set_option Elab.async false
set_option linter.all false
set_option maxRecDepth 100000
set_option maxHeartbeats 4000000
namespace Cw
open PySem PySem.Spec PyProof.Rows L2
section
variable {P : Program} {w : World} {K : PySem.W.Frag} {mg : Str → Option Value} {base : Heap}
/-! among, few, eyes, road -/
def sp_law_among : Sp := fun vs H Q _ => ∃ (a l : Addr) (xs : List V), vs = [.ref a, .ref l] ∧ PotAt H a ∧ off a H l = some (.lst xs) ∧ xs ≠ [] ∧ xs.length ≤ 1000 ∧ ∀ H' v, Go a H H' → v ∈ xs → Q v H'
/-! _law_among: 0:_law_pot_here 1:_law_some -/
abbrev n_law_among : List Str := ["_law_pot_here", "_law_some"]
theorem sc_law_among : FnScope n_law_among ["_law_pot_here", "_law_some"] (defScope s_law_among) := ⟨rfl, rfl, rfl, by decide +kernel, rfl, by decide +kernel, by decide +kernel⟩
theorem c_law_among (T : Txt K mg) : Cal P w K mg base 2 (He.ga K "_law_among") ["_law_pot_here", "_law_some"] sp_law_among := by
  refine T.d_law_among.cal sc_law_among (fun _ _ _ _ _ _ us hl => match us, hl with | [_, _], _ => rfl) (fun vs H Q E h => ?_) (fun cdv A outer s H vs Q E hr h => ?_)
  · obtain ⟨_, _, _, rfl, _⟩ := h; rfl
  · obtain ⟨a, l, xs, rfl, hp, hl, hne, hle, k⟩ := h
    refine ⟨_, (pss_one (ps_ret (pe_ix (kix_list K) (pv 1) (pe_cal (c_law_draw T) (hr.mono (by decide)) (by rfl) T.g_law_draw (pa_cons (pv 0) (pa_cons (pe_callB (kcall_len_seq K) (by rfl) T.b_len bt_len (pa_cons (pv 1) pa_nil)) pa_nil))) (fun _ _ => rfl)))), ?_⟩
    refine ⟨_, rfl, _, rfl, _, rfl, l, xs, rfl, .inl (SqL.of (off_le _ _ hl)), a, xs.length, rfl, hp, by cases xs with | nil => exact absurd rfl hne | cons _ _ => simp, hle, fun H1 d g hd => ?_⟩
    obtain ⟨v, hv⟩ : ∃ v, xs[d]? = some v := ⟨_, List.getElem?_eq_getElem hd⟩
    exact ⟨l, xs, _, v, rfl, rfl, SqL.of (g.at hl), atI_nat hv, k _ v g (List.mem_of_getElem? hv)⟩

theorem cut_from {xs : List V} {i : Nat} (h : i ≤ xs.length) : cutV xs (some (i : Int)) none = xs.drop i := by
  unfold cutV
  rw [HT.sIx_none, HT.sIx_nat, Nat.min_eq_left h, ← List.length_drop, List.take_length]
theorem cut_to (xs : List V) (i : Nat) : cutV xs none (some (i : Int)) = xs.take i := by
  unfold cutV
  rw [HT.sIx_none, HT.sIx_nat, List.drop_zero, Nat.sub_zero]
  by_cases h : i ≤ xs.length
  · rw [Nat.min_eq_left h]
  · rw [Nat.min_eq_right (by omega), List.take_length, List.take_of_length_le (by omega)]
theorem rot_perm {α : Type} (xs : List α) (i : Nat) : (xs.drop i ++ xs.take i).Perm xs := (List.perm_append_comm).trans (by rw [List.take_append_drop])
def sp_law_few : Sp := fun vs H Q _ => ∃ (a l : Addr) (xs : List V) (m : Nat), vs = [.ref a, .ref l, .int m] ∧ PotAt H a ∧ off a H l = some (.lst xs) ∧ xs ≠ [] ∧ xs.length ≤ 1000 ∧ ∀ H' q ys, Go a H H' → off a H q = none → off a H' q = some (.lst ys) → ys.length ≤ m → (∀ y ∈ ys, y ∈ xs) → Q (.ref q) H'
/-! _law_few: 0:_law_pot_here 1:_law_some 2:_law_many 3:_law_start -/
abbrev n_law_few : List Str := ["_law_pot_here", "_law_some", "_law_many", "_law_start"]
theorem sc_law_few : FnScope n_law_few ["_law_pot_here", "_law_some", "_law_many"] (defScope s_law_few) := ⟨rfl, rfl, rfl, by decide +kernel, rfl, by decide +kernel, by decide +kernel⟩
theorem c_law_few (T : Txt K mg) : Cal P w K mg base 2 (He.ga K "_law_few") ["_law_pot_here", "_law_some", "_law_many"] sp_law_few := by
  refine T.d_law_few.cal sc_law_few (fun _ _ _ _ _ _ us hl => match us, hl with | [_, _, _], _ => rfl) (fun vs H Q E h => ?_) (fun cdv A outer s H vs Q E hr h => ?_)
  · obtain ⟨_, _, _, _, rfl, _⟩ := h; rfl
  · obtain ⟨a, l, xs, m, rfl, hp, hl, hne, hle, k⟩ := h
    refine ⟨_, (pss_cons (ps_set (i := 3) sc_law_few.nd rfl (Or.inl rfl) (pe_cal (c_law_draw T) (hr.mono (by decide)) (by rfl) T.g_law_draw (pa_cons (pv 0) (pa_cons (pe_callB (kcall_len_seq K) (by rfl) T.b_len bt_len (pa_cons (pv 1) pa_nil)) pa_nil))))
      (pss_one (ps_ret (pe_slice (ksl_list K) (pe_op op_cat (pe_slice (ksl_list K) (pv 1) (po_some (pv 3)) po_none) (pe_slice (ksl_list K) (pv 1) po_none (po_some (pv 3)))) po_none (po_some (pv 2)))))), ?_⟩
    refine ⟨_, rfl, _, rfl, l, xs, rfl, .inl (SqL.of (off_le _ _ hl)), a, xs.length, rfl, hp, by cases xs with | nil => exact absurd rfl hne | cons _ _ => simp, hle, fun H1 d g hd => ?_⟩
    have hl1 := g.at hl
    refine ⟨_, rfl, _, rfl, _, rfl, l, _, rfl, SqL.of hl1, fun p1 n1 => ?_⟩
    rw [cut_from (Nat.le_of_lt hd)]
    refine ⟨_, rfl, _, rfl, _, rfl, l, _, rfl, SqL.of (same_upd n1 _ _ hl1), fun p2 n2 => ?_⟩
    rw [cut_to]
    refine ⟨p1, p2, _, _, rfl, rfl, same_upd n2 _ _ upd_same, upd_same, le_line (by rw [List.length_drop, List.length_take]; omega), fun p3 n3 => ?_⟩
    refine ⟨_, rfl, _, rfl, p3, _, rfl, SqL.of upd_same, fun p4 n4 => ?_⟩
    rw [cut_to]
    have n4a : p4 ≠ a := (g.step (((same_upd n1).trans (same_upd n2)).trans (same_upd n3))).new n4
    refine k _ p4 _ (g.step (((same_upd n1).trans (same_upd n2)).trans ((same_upd n3).trans (same_upd n4)))) ((g.step (((same_upd n1).trans (same_upd n2)).trans (same_upd n3))).free n4) (by rw [off_ne n4a, upd_same]) (by rw [List.length_take]; omega) fun y hy => ?_
    exact (rot_perm xs d).mem_iff.mp (List.mem_of_mem_take hy)

def sp_law_eyes : Sp := fun vs H Q _ => ∃ (p rA : Addr) (kvs : List (Key × V)) (hm : Str) (wy : List (Str × Str)), vs = [.ref p] ∧ H p = some (.dK kvs) ∧ valV kvs (Sum.inr "road" : Key) = some (.ref rA) ∧ valV kvs (Sum.inr "home" : Key) = some (.str hm) ∧ H rA = some (.dK (dk wy)) ∧ wy.length ≤ 20 ∧
  ∀ H' q ys, Same H H' → H q = none → H' q = some (.lst (sL ys)) → ys.Perm (keys wy ++ [hm]) → Q (.ref q) H'
/-! _law_eyes: 0:_law_thing_here -/
abbrev n_law_eyes : List Str := ["_law_thing_here"]
theorem sc_law_eyes : FnScope n_law_eyes ["_law_thing_here"] (defScope s_law_eyes) := ⟨rfl, rfl, rfl, by decide +kernel, rfl, by decide +kernel, by decide +kernel⟩
theorem c_law_eyes (T : Txt K mg) : Cal P w K mg base 1 (He.ga K "_law_eyes") ["_law_thing_here"] sp_law_eyes := by
  refine T.d_law_eyes.cal sc_law_eyes (fun _ _ _ _ _ _ us hl => match us, hl with | [_], _ => rfl) (fun vs H Q E h => ?_) (fun cdv A outer s H vs Q E hr h => ?_)
  · obtain ⟨_, _, _, _, _, rfl, _⟩ := h; rfl
  · obtain ⟨p, rA, kvs, hm, wy, rfl, hp, h1, h2, hr1, hl, k⟩ := h
    have hu := hu_of hr
    refine ⟨_, (pss_one (ps_ret (pe_callB (kcr_sortedS K) (by rfl) T.b_sorted bt_sorted (pa_cons (pe_op op_cat (pe_callTy (call_listD rfl) (by rfl) T.b_list bt_list (pa_cons (pe_dget hu (pv 0) pe_str (fun _ _ => rfl)) pa_nil)) (pe_lst (pa_cons (pe_dget hu (pv 0) pe_str (fun _ _ => rfl)) pa_nil))) pa_nil)))), ?_⟩
    refine ⟨_, rfl, p, _, rfl, .inl ⟨kvs, (Sum.inr "road" : Key), .inl hp, rfl, h1.symm⟩, rA, _, rfl, .inl hr1, fun l1 n1 => ?_⟩
    have ek : ((dk wy).map fun kv => kV kv.1) = sL (keys wy) := by simp [dk, sL, keys, kV]
    rw [ek]
    refine ⟨_, rfl, p, _, rfl, .inl ⟨kvs, (Sum.inr "home" : Key), .inl (same_upd n1 _ _ hp), rfl, h2.symm⟩, le_line (by show (1 : Nat) ≤ 100000; decide), fun l2 n2 => ?_⟩
    refine ⟨l1, l2, _, _, rfl, rfl, same_upd n2 _ _ upd_same, upd_same, le_line (by rw [sL_len]; unfold keys; rw [List.length_map]; show wy.length + 1 ≤ 100000; omega), fun l3 n3 => ?_⟩
    refine ⟨l3, keys wy ++ [hm], rfl, SqL.of (by rw [upd_same]; simp [sL]), by unfold keys; simp; omega, fun ys q pm so nq => ?_⟩
    have s3 := ((same_upd (o := .lst (sL (keys wy))) n1).trans (same_upd (o := .lst [.str hm]) n2)).trans (same_upd (o := .lst (sL (keys wy) ++ [.str hm])) n3)
    exact k _ q ys (s3.trans (same_upd nq)) (s3.free nq) upd_same pm

def Ord (home : Str) (wy : List (Str × Str)) : Prop := ∀ i k v, wy[i]? = some (k, v) → v = home ∨ v ∈ (keys wy).take i
structure RoadOk (ss : List Str) (home : Str) (wy : List (Str × Str)) : Prop where
  nd : (keys wy).Nodup
  kp : home ∉ keys wy
  sub : ∀ k ∈ keys wy, k ∈ ss
  ord : Ord home wy
theorem put_dk {wy : List (Str × Str)} {k v : Str} (h : k ∉ keys wy) : putK (dk wy) (Sum.inr k : Key) (.str v) = dk (wy ++ [(k, v)]) := by
  have : ((dk wy).any fun kv => decide (kv.1 = (Sum.inr k : Key))) = false := by
    rw [Bool.eq_false_iff]
    intro z
    obtain ⟨q, hq, e⟩ := List.any_eq_true.mp z
    obtain ⟨p, hp, rfl⟩ := List.mem_map.mp hq
    exact h (List.mem_map.mpr ⟨p, hp, Sum.inr.inj (of_decide_eq_true e)⟩)
  unfold putK
  rw [if_neg (by rw [this]; decide)]
  simp [dk]
theorem keys_snoc (wy : List (Str × Str)) (k v : Str) : keys (wy ++ [(k, v)]) = keys wy ++ [k] := by simp [keys]
theorem road_snoc {ss : List Str} {home : Str} {wy : List (Str × Str)} {k v : Str} (r : RoadOk ss home wy) (h1 : k ∉ keys wy) (h2 : k ≠ home) (h3 : k ∈ ss) (h4 : v = home ∨ v ∈ keys wy) : RoadOk ss home (wy ++ [(k, v)]) where
  nd := by
    rw [keys_snoc, List.nodup_append]
    exact ⟨r.nd, by simp, fun u hu v hv => by rw [List.mem_singleton.mp hv]; exact fun z => h1 (z ▸ hu)⟩
  kp := by
    rw [keys_snoc]
    intro z
    rcases List.mem_append.mp z with q | q
    · exact r.kp q
    · exact h2 (List.mem_singleton.mp q).symm
  sub := fun x hx => by
    rw [keys_snoc] at hx
    rcases List.mem_append.mp hx with q | q
    · exact r.sub x q
    · rw [List.mem_singleton.mp q]; exact h3
  ord := fun i k' v' hi => by
    rw [keys_snoc]
    have hl : (keys wy).length = wy.length := List.length_map ..
    by_cases z : i < wy.length
    · rw [List.getElem?_append_left z] at hi
      rw [List.take_append_of_le_length (by omega)]
      exact r.ord i k' v' hi
    · have : i = wy.length := by
        have := (List.getElem?_eq_some_iff.mp hi).1
        rw [List.length_append, List.length_singleton] at this
        omega
      subst this
      rw [List.getElem?_append_right (Nat.le_refl _), Nat.sub_self] at hi
      cases hi
      rw [← hl, List.take_left']
      · exact h4
      · rfl
def rkOf (home : Str) (wy : List (Str × Str)) (x : Str) : Nat := if x = home then 0 else (keys wy).idxOf x + 1
theorem road_len {ss : List Str} {home : Str} {wy : List (Str × Str)} (r : RoadOk ss home wy) (hh : home ∈ ss) : wy.length + 1 ≤ ss.length := by
  have := nodup_le (l := home :: keys wy) (m := ss) (List.nodup_cons.mpr ⟨r.kp, r.nd⟩) fun x hx => by
    rcases List.mem_cons.mp hx with q | q
    · rw [q]; exact hh
    · exact r.sub x q
  simpa [keys] using this
theorem road_way {ss : List Str} {home : Str} {wy : List (Str × Str)} (r : RoadOk ss home wy) (hl : wy.length ≤ 5) (k : Nat) (nm st : Str) (mb : List Str) : WayOk ⟨k, nm, st, home, wy, mb, rkOf home wy⟩ where
  nd := r.nd
  kp := r.kp
  rk0 := if_pos rfl
  dn := fun p hp => by
    show rkOf home wy p.2 < rkOf home wy p.1
    have pk : p.1 ∈ keys wy := List.mem_map.mpr ⟨p, hp, rfl⟩
    have nh : p.1 ≠ home := fun z => r.kp (z ▸ pk)
    unfold rkOf
    rw [if_neg nh]
    obtain ⟨i, hi, ei⟩ := List.mem_iff_getElem.mp hp
    have hk : (keys wy)[i]'(by unfold keys; rw [List.length_map]; exact hi) = p.1 := by
      unfold keys; rw [List.getElem_map, ei]
    have ix : (keys wy).idxOf p.1 = i := by rw [← hk]; exact r.nd.idxOf_getElem i (by unfold keys; rw [List.length_map]; exact hi)
    rcases r.ord i p.1 p.2 (by rw [List.getElem?_eq_getElem hi, ei]) with z | z
    · rw [if_pos z]; omega
    · split
      · omega
      · have := List.idxOf_lt_length_of_mem z
        obtain ⟨j, hj, ej⟩ := List.mem_iff_getElem.mp z
        rw [List.length_take] at hj
        rw [List.getElem_take] at ej
        have : (keys wy).idxOf p.2 = j := by rw [← ej]; exact r.nd.idxOf_getElem j (by omega)
        omega
  le := fun p hp => by
    show rkOf home wy p.1 ≤ wy.length
    have pk : p.1 ∈ keys wy := List.mem_map.mpr ⟨p, hp, rfl⟩
    have := List.idxOf_lt_length_of_mem pk
    unfold rkOf
    unfold keys at this ⊢
    rw [List.length_map] at this
    split <;> omega
  val := fun p hp => by
    obtain ⟨i, hi, ei⟩ := List.mem_iff_getElem.mp hp
    rcases r.ord i p.1 p.2 (by rw [List.getElem?_eq_getElem hi, ei]) with z | z
    · exact .inl z
    · exact .inr (List.mem_of_mem_take z)
  few := hl
def sp_law_road : Sp := fun vs H Q _ => ∃ (a l : Addr) (ss : List Str) (home : Str), vs = [.ref a, .ref l, .str home] ∧ PotAt H a ∧ off a H l = some (.lst (sL ss)) ∧ ss.Nodup ∧ ss.length ≤ 5 ∧ home ∈ ss ∧
  ∀ H' q wy, Go a H H' → off a H q = none → off a H' q = some (.dK (dk wy)) → RoadOk ss home wy → Q (.ref q) H'
/-! _law_road: 0:_law_pot_here 1:_law_spots_here 2:_law_home 3:_law_turn 4:_law_spot 5:_law_seen 6:_law_road_here -/
abbrev n_law_road : List Str := ["_law_pot_here", "_law_spots_here", "_law_home", "_law_turn", "_law_spot", "_law_seen", "_law_road_here"]
theorem sc_law_road : FnScope n_law_road ["_law_pot_here", "_law_spots_here", "_law_home"] (defScope s_law_road) := ⟨rfl, rfl, rfl, by decide +kernel, rfl, by decide +kernel, by decide +kernel⟩
theorem c_law_road (T : Txt K mg) : Cal P w K mg base 3 (He.ga K "_law_road") ["_law_pot_here", "_law_spots_here", "_law_home"] sp_law_road := by
  refine T.d_law_road.cal sc_law_road (fun _ _ _ _ _ _ us hl => match us, hl with | [_, _, _], _ => rfl) (fun vs H Q E h => ?_) (fun cdv A outer s H vs Q E hr h => ?_)
  · obtain ⟨_, _, _, _, rfl, _⟩ := h; rfl
  · obtain ⟨a, l, ss, home, rfl, hp, hl, nd, h5, hm, k⟩ := h
    have hu := hu_of hr
    refine ⟨_, (pss_cons (ps_set (i := 3) sc_law_road.nd rfl (Or.inl rfl) (pe_cal (c_law_draw T) (hr.mono (by decide)) (by rfl) T.g_law_draw (pa_cons (pv 0) (pa_cons (pe_callB (kcall_len_seq K) (by rfl) T.b_len bt_len (pa_cons (pv 1) pa_nil)) pa_nil))))
      (pss_cons (ps_par (i := 5) (j := 6) rfl sc_law_road.nd rfl rfl (by decide) rfl rfl (pa_cons (pe_lst (pa_cons (pv 2) pa_nil)) (pa_cons pe_dnewK pa_nil)) (by rfl))
      (pss_cons (ps_for PassesOwn.never rfl (kpi_list K (pe_op op_cat (pe_slice (ksl_list K) (pv 1) (po_some (pv 3)) po_none) (pe_slice (ksl_list K) (pv 1) po_none (po_some (pv 3))))) (pg_name (i := 4) sc_law_road.nd rfl (Or.inl rfl))
        (pss_one (ps_if (PW.pt (pw_and (pt_cmpR op_ne (pv 4) (pv 2) (nomark _)) (pw_and1 (pt_cmpR op_gt (pe_cal (c_law_draw T) (hr.mono (by decide)) (by rfl) T.g_law_draw (pa_cons (pv 0) (pa_cons pe_int pa_nil))) pe_int (nomark _)))))
          (pss_cons (ps_dput hu (pv 6) (pv 4) (pe_cal (c_law_among T) (hr.mono (by decide)) (by rfl) T.g_law_among (pa_cons (pv 0) (pa_cons (pv 5) pa_nil))) rfl)
          (pss_one (ps_expr (kpe_bm K PySem.F.plainAttrs_list PySem.F.slot_list_append PySem.F.type_list_append mt_append (pv 5) (pa_cons (pv 4) pa_nil))))) pss_nil)))
      (pss_one (ps_ret (pv 6)))))), ?_⟩
    refine ⟨_, rfl, _, rfl, l, _, rfl, .inl (SqL.of (off_le _ _ hl)), a, ss.length, by rw [sL_len], hp, by cases ss with | nil => simp at hm | cons _ _ => simp, by omega, fun H1 d g hd => ?_⟩
    refine ⟨_, rfl, le_line (by show (1 : Nat) ≤ 100000; decide), fun p1 n1 p2 n2 => ⟨_, _, rfl, ?_⟩⟩
    have a1 := g.new n1
    have g2 : Go a H (upd (upd H1 p1 (.lst [.str home])) p2 (.dK [])) := (g.step (same_upd n1)).step (same_upd n2)
    have a2 := (g.step (same_upd n1)).new n2
    have b1 : (upd (upd H1 p1 (.lst [.str home])) p2 (.dK [])) p1 = some (.lst [.str home]) := same_upd n2 _ _ upd_same
    have b2 : (upd (upd H1 p1 (.lst [.str home])) p2 (.dK [])) p2 = some (.dK []) := upd_same
    have f1 : off a H p1 = none := g.free n1
    have f2 : off a H p2 = none := (g.step (same_upd n1)).free n2
    have hl2 := g2.at hl
    generalize upd (upd H1 p1 (.lst [.str home])) p2 (.dK []) = H2 at g2 b1 b2 hl2 ⊢
    have hla : l ≠ a := fun z => by rw [z, off_at] at hl; cases hl
    refine ⟨_, rfl, _, rfl, _, rfl, l, _, rfl, SqL.of hl2, fun q1 m1 => ?_⟩
    rw [cut_from (by rw [sL_len]; omega)]
    refine ⟨_, rfl, _, rfl, _, rfl, l, _, rfl, SqL.of (same_upd m1 _ _ hl2), fun q2 m2 => ?_⟩
    rw [cut_to]
    refine ⟨q1, q2, _, _, rfl, rfl, same_upd m2 _ _ upd_same, upd_same, le_line (by rw [List.length_drop, List.length_take, sL_len]; omega), fun q3 m3 => ?_⟩
    have es : (sL ss).drop d ++ (sL ss).take d = sL (ss.drop d ++ ss.take d) := by simp [sL, List.map_take, List.map_drop]
    rw [es]
    have pm := rot_perm ss d
    generalize ss.drop d ++ ss.take d = rs at pm
    have g3 : Go a H2 (upd (upd (upd H2 q1 (.lst ((sL ss).drop d))) q2 (.lst ((sL ss).take d))) q3 (.lst (sL rs))) := Go.of ((same_upd m1).trans ((same_upd m2).trans (same_upd m3))) g2.2
    have a3 : q3 ≠ a := (Go.of ((same_upd m1).trans (same_upd m2)) g2.2 : Go a H2 _).new m3
    have b3 : (upd (upd (upd H2 q1 (.lst ((sL ss).drop d))) q2 (.lst ((sL ss).take d))) q3 (.lst (sL rs))) q3 = some (.lst (sL rs)) := upd_same
    have c1 := g3.at (by rw [off_ne a1]; exact b1)
    have c2 := g3.at (by rw [off_ne a2]; exact b2)
    have q31 : q3 ≠ p1 := fun z => by rw [z, ((same_upd m1).trans (same_upd m2)) _ _ b1] at m3; cases m3
    have q32 : q3 ≠ p2 := fun z => by rw [z, ((same_upd m1).trans (same_upd m2)) _ _ b2] at m3; cases m3
    have p12 : p1 ≠ p2 := fun z => by rw [z, b2] at b1; cases b1
    have g4 := g2.trans g3
    generalize upd (upd (upd H2 q1 (.lst ((sL ss).drop d))) q2 (.lst ((sL ss).take d))) q3 (.lst (sL rs)) = H3 at g4 b3 c1 c2 ⊢
    refine ⟨q3, rfl, ⟨_, SqL.of b3⟩, ?_⟩
    refine forG rs.length (fun i σ H' => Go a H H' ∧ H' q3 = some (.lst (sL rs)) ∧ (∃ wy, H' p1 = some (.lst (sL (home :: keys wy))) ∧ H' p2 = some (.dK (dk wy)) ∧ RoadOk ss home wy ∧ (∀ x ∈ keys wy, x ∈ rs.take i)) ∧ ∃ u0 u1, σ = [some (.ref a), some (.ref l), some (.str home), u0, u1, some (.ref p1), some (.ref p2)])
      ⟨g4, b3, ⟨[], c1, c2, ⟨by simp [keys], by simp [keys], by simp [keys], fun i k v h => by simp at h⟩, by simp [keys]⟩, _, _, rfl⟩ ?_ ?_ ?_ ?_
    · rintro i σ H' hi ⟨_, hq, _⟩; exact itl_go (SqL.of hq) (by rw [sL_len]; exact hi)
    · rintro σ H' ⟨_, hq, _⟩; exact itl_stop (SqL.of hq) (sL_len _)
    · rintro i x σ H4 _ hi ⟨g5, hq, ⟨wy, w1, w2, rd, wi⟩, u0, u1, rfl⟩ ⟨rfl, hx⟩
      rename Hp => H4
      obtain ⟨y, hy⟩ : ∃ y, rs[i]? = some y := ⟨_, List.getElem?_eq_getElem hi⟩
      have hx' := hx _ (SqL.of hq)
      rw [sL, List.getElem?_map, hy] at hx'
      cases hx'
      have yS : y ∈ ss := pm.mem_iff.mp (List.mem_of_getElem? hy)
      have yn : y ∉ keys wy := fun z => by
        have nr : rs.Nodup := pm.nodup_iff.mpr nd
        have := split_S hy
        rw [this, List.nodup_append] at nr
        exact nr.2.2 y (wi y z) y (by simp) rfl
      have keep : ∀ H', Go a H4 H' → Go a H H' ∧ H' q3 = some (.lst (sL rs)) ∧ (∃ wy, H' p1 = some (.lst (sL (home :: keys wy))) ∧ H' p2 = some (.dK (dk wy)) ∧ RoadOk ss home wy ∧ (∀ x ∈ keys wy, x ∈ rs.take (i + 1))) := fun H' g6 =>
        ⟨g5.trans g6, g6.at (by rw [off_ne a3]; exact hq), wy, g6.at (by rw [off_ne a1]; exact w1), g6.at (by rw [off_ne a2]; exact w2), rd, fun x hx => by rw [take_snoc hy]; exact List.mem_append_left _ (wi x hx)⟩
      have g44 : Go a H4 H4 := ⟨Same.refl _, g5.2⟩
      refine ⟨_, rfl, _, rfl, rfl, _, rfl, ?_⟩
      by_cases yh : y = home
      · subst yh
        rw [decide_eq_true rfl]
        refine iteF (iteF ?_)
        obtain ⟨k1, k2, k3⟩ := keep H4 g44
        exact ⟨k1, k2, k3, _, _, rfl⟩
      · rw [decide_eq_false (fun z => yh (V.str.inj z))]
        refine iteT ⟨_, rfl, a, 3, rfl, g5.2, by decide, by decide, fun H5 d2 g6 hd2 => ⟨_, _, rfl, rfl, _, rfl, ?_⟩⟩
        by_cases d0 : (0 : Int) < (d2 : Nat)
        · rw [decide_eq_true d0]
          refine iteT ?_
          have w1' := g6.at (by rw [off_ne a1]; exact w1)
          refine ⟨_, rfl, _, rfl, a, p1, _, rfl, g6.2, by rw [off_ne a1]; exact w1', by simp [sL], by have := road_len rd hm; simp [sL, keys]; omega, fun H6 v g7 hv => ?_⟩
          obtain ⟨z, hz, rfl⟩ := List.mem_map.mp hv
          have g8 := g6.trans g7
          have w2' := g8.at (by rw [off_ne a2]; exact w2)
          refine ⟨_, rfl, _, rfl, p2, _, rfl, .inl ⟨_, (Sum.inr y : Key), w2', rfl, lt_line (by rw [dk_len]; have := road_len rd hm; omega), rfl⟩, ?_⟩
          rw [put_dk yn]
          have w1'' := g8.at (by rw [off_ne a1]; exact w1)
          have w9 : (upd H6 p2 (.dK (dk (wy ++ [(y, z)])))) p1 = some (.lst (sL (home :: keys wy))) := by rw [upd_ne p12]; exact w1''
          refine ⟨_, rfl, .inl ⟨rfl, _, SqL.of w9⟩, _, rfl, p1, _, _, rfl, rfl, w9, lt_line (by have := road_len rd hm; rw [sL_len]; unfold keys; rw [List.length_cons, List.length_map]; omega), ?_⟩
          have el : sL (home :: keys wy) ++ [V.str y] = sL (home :: keys (wy ++ [(y, z)])) := by rw [keys_snoc]; simp [sL]
          rw [el]
          have g9 := g5.trans g8
          refine ⟨⟨?_, ?_⟩, ?_, ⟨wy ++ [(y, z)], upd_same, by rw [upd_ne (Ne.symm p12)]; exact upd_same, road_snoc rd yn yh yS ?_, ?_⟩, _, _, rfl⟩
          · intro b o hb
            have b1' : b ≠ p1 := fun q => by rw [q, f1] at hb; cases hb
            have b2' : b ≠ p2 := fun q => by rw [q, f2] at hb; cases hb
            have ba : b ≠ a := fun q => by rw [q, off_at] at hb; cases hb
            rw [off_ne ba, upd_ne b1', upd_ne b2']
            exact g9.at hb
          · obtain ⟨x', y', e1, e2⟩ := g9.2
            exact ⟨x', y', by rw [upd_ne (Ne.symm a1), upd_ne (Ne.symm a2)]; exact e1, e2⟩
          · rw [upd_ne q31, upd_ne q32]
            exact g8.at (by rw [off_ne a3]; exact hq)
          · rcases List.mem_cons.mp hz with e | e
            · exact .inl e
            · exact .inr e
          · intro x hx
            rw [take_snoc hy]
            rw [keys_snoc] at hx
            rcases List.mem_append.mp hx with e | e
            · exact List.mem_append_left _ (wi x e)
            · exact List.mem_append_right _ e
        · rw [decide_eq_false d0]
          refine iteF ?_
          obtain ⟨k1, k2, k3⟩ := keep H5 g6
          exact ⟨k1, k2, k3, _, _, rfl⟩
    · rintro σ H4 ⟨g5, hq, ⟨wy, w1, w2, rd, wi⟩, u0, u1, rfl⟩
      exact ⟨_, rfl, k H4 p2 wy g5 f2 (by rw [off_ne a2]; exact w2) rd⟩
end
end Cw

/-! CwU -/
set_option Elab.async false
set_option linter.all false
set_option maxRecDepth 100000
set_option maxHeartbeats 4000000
namespace Cw
open PySem PySem.Spec PyProof.Rows L2
section
variable {P : Program} {w : World} {K : PySem.W.Frag} {mg : Str → Option Value} {base : Heap}
/-! the things that are dealt -/
structure Th where
  tg : Str
  bs : Str
  hm : Str
  wy : List (Str × Str)
  hd : Bool
  kd : List Str
  sh : Bool
def thK (t : Th) (rA kA : Addr) : List (Key × V) := [(Sum.inr "tag", .str t.tg), (Sum.inr "bits", .str t.bs), (Sum.inr "home", .str t.hm), (Sum.inr "road", .ref rA), (Sum.inr "held", .bl t.hd), (Sum.inr "kids", .ref kA), (Sum.inr "shut", .bl t.sh)]
def ThAt (H : Hp) (p : Addr) (t : Th) : Prop := ∃ rA kA, H p = some (.dK (thK t rA kA)) ∧ H rA = some (.dK (dk t.wy)) ∧ H kA = some (.lst (sL t.kd))
theorem ThAt.mono {H H' : Hp} {p : Addr} {t : Th} (h : ThAt H p t) (e : Same H H') : ThAt H' p t := by
  obtain ⟨rA, kA, h1, h2, h3⟩ := h
  exact ⟨rA, kA, e _ _ h1, e _ _ h2, e _ _ h3⟩
def tags : List Str := ["t", "p", "w", "q", "v", "r", "u", "s"]
structure Dl (ss : List Str) (ts : List Th) : Prop where
  tg : ts.map (·.tg) = tags.take ts.length
  bs : (ts.map (·.bs)).Nodup
  bits : ∀ t ∈ ts, isBits t.bs
  hm : ∀ t ∈ ts, t.hm ∈ ss
  rd : ∀ t ∈ ts, RoadOk ss t.hm t.wy
  kid : ∀ t ∈ ts, ∀ m ∈ t.kd, ∃ x ∈ ts, x.tg = m ∧ x.hd = true ∧ t.bs.length < x.bs.length ∧ pre t.bs x.bs ∧ (t.hm ∈ keys x.wy ∨ t.hm = x.hm)
  dis : (ts.flatMap (·.kd)).Nodup
  srt : ∀ t ∈ ts, sortedS t.kd = true
  fst : ∀ t, ts.head? = some t → t.kd = []
theorem tags_nd : tags.Nodup := by decide +kernel
theorem Dl.tgU {ss : List Str} {ts : List Th} (d : Dl ss ts) : (ts.map (·.tg)).Nodup := by
  rw [d.tg]; exact tags_nd.sublist (List.take_sublist _ _)
def mk (S : List Addr) (q : Addr × Th) : Addr × Th := if q.1 ∈ S then (q.1, { q.2 with hd := true }) else q
theorem mk_1 (S : List Addr) (q : Addr × Th) : (mk S q).1 = q.1 := by unfold mk; split <;> rfl
theorem mk_tg (S : List Addr) (q : Addr × Th) : (mk S q).2.tg = q.2.tg := by unfold mk; split <;> rfl
theorem mk_bs (S : List Addr) (q : Addr × Th) : (mk S q).2.bs = q.2.bs := by unfold mk; split <;> rfl
theorem mk_hm (S : List Addr) (q : Addr × Th) : (mk S q).2.hm = q.2.hm := by unfold mk; split <;> rfl
theorem mk_wy (S : List Addr) (q : Addr × Th) : (mk S q).2.wy = q.2.wy := by unfold mk; split <;> rfl
theorem mk_kd (S : List Addr) (q : Addr × Th) : (mk S q).2.kd = q.2.kd := by unfold mk; split <;> rfl
theorem mk_hd (S : List Addr) (q : Addr × Th) : (mk S q).2.hd = true ↔ q.2.hd = true ∨ q.1 ∈ S := by
  unfold mk; split
  · rename_i h; simp [h]
  · rename_i h; simp [h]
theorem mk_nil (ps : List (Addr × Th)) : ps.map (mk []) = ps := by
  conv => rhs; rw [← List.map_id ps]
  exact List.map_congr_left fun q _ => by unfold mk; rw [if_neg (by simp)]; rfl
theorem dl_new {ss : List Str} {ps ks : List (Addr × Th)} {bits home : Str} {wy : List (Str × Str)} {kd : List Str} {sh : Bool} {tag : Str} (d : Dl ss (ps.map (·.2))) (nd : (ps.map (·.1)).Nodup) (hl : ps.length ≤ 7) (ht : tags[ps.length]? = some tag)
    (hb : isBits bits) (hbn : bits ∉ ps.map (fun q => q.2.bs)) (hh : home ∈ ss) (hr : RoadOk ss home wy) (sub : ks.Sublist ps) (hk : ∀ k ∈ ks, pre bits k.2.bs ∧ k.2.hd = false ∧ (home ∈ keys k.2.wy ∨ home = k.2.hm))
    (pm : kd.Perm (ks.map (fun q => q.2.tg))) (so : sortedS kd = true) : Dl ss ((ps.map (mk (ks.map (·.1)))).map (·.2) ++ [⟨tag, bits, home, wy, false, kd, sh⟩]) := by
  have mem : ∀ {t : Th}, t ∈ (ps.map (mk (ks.map (·.1)))).map (·.2) ++ [⟨tag, bits, home, wy, false, kd, sh⟩] → (∃ q ∈ ps, t = (mk (ks.map (·.1)) q).2) ∨ t = ⟨tag, bits, home, wy, false, kd, sh⟩ := fun {t} h => by
    rcases List.mem_append.mp h with z | z
    · obtain ⟨x, hx, rfl⟩ := List.mem_map.mp z
      obtain ⟨q, hq, rfl⟩ := List.mem_map.mp hx
      exact .inl ⟨q, hq, rfl⟩
    · exact .inr (List.mem_singleton.mp z)
  have inn : ∀ q ∈ ps, (mk (ks.map (·.1)) q).2 ∈ (ps.map (mk (ks.map (·.1)))).map (·.2) ++ [⟨tag, bits, home, wy, false, kd, sh⟩] := fun q hq => List.mem_append_left _ (List.mem_map.mpr ⟨_, List.mem_map.mpr ⟨q, hq, rfl⟩, rfl⟩)
  have old : ∀ q ∈ ps, q.2 ∈ ps.map (·.2) := fun q hq => List.mem_map.mpr ⟨q, hq, rfl⟩
  have tU : (ps.map (fun q => q.2.tg)).Nodup := by have := d.tgU; rwa [List.map_map] at this
  have uni : ∀ x ∈ ps, ∀ y ∈ ps, x.2.tg = y.2.tg → x = y := fun x hx y hy e => map_inj (f := fun q : Addr × Th => q.2.tg) tU hx hy e
  have longer : ∀ k ∈ ks, bits.length < k.2.bs.length := fun k hk' => by
    obtain ⟨h1, _, _⟩ := hk k hk'
    have l1 := pre_len h1
    rcases Nat.lt_or_ge bits.length k.2.bs.length with z | z
    · exact z
    · exfalso
      have := pre_eq (a := k.2.bs) h1 (pre_refl _) (Nat.le_antisymm l1 z)
      exact hbn (List.mem_map.mpr ⟨k, sub.subset hk', this.symm⟩)
  refine ⟨?_, ?_, ?_, ?_, ?_, ?_, ?_, ?_, ?_⟩
  · have e := d.tg
    rw [List.map_append, List.map_map, List.map_map, List.length_append, List.length_map, List.length_map, List.length_singleton, take_snoc ht]
    rw [List.map_map, List.length_map] at e
    congr 1
    rw [← e]
    exact List.map_congr_left fun q _ => mk_tg _ q
  · rw [List.map_append, List.map_map, List.map_map, List.nodup_append]
    have e : ps.map (((fun t : Th => t.bs) ∘ fun q : Addr × Th => q.2) ∘ mk (ks.map (·.1))) = ps.map (fun q => q.2.bs) := List.map_congr_left fun q _ => mk_bs _ q
    rw [e]
    refine ⟨by have := d.bs; rwa [List.map_map] at this, by simp, fun u hu v hv => ?_⟩
    simp only [List.map_cons, List.map_nil, List.mem_singleton] at hv
    rw [hv]; exact fun z => hbn (z ▸ hu)
  · intro t h
    rcases mem h with ⟨q, hq, rfl⟩ | rfl
    · rw [mk_bs]; exact d.bits _ (old q hq)
    · exact hb
  · intro t h
    rcases mem h with ⟨q, hq, rfl⟩ | rfl
    · rw [mk_hm]; exact d.hm _ (old q hq)
    · exact hh
  · intro t h
    rcases mem h with ⟨q, hq, rfl⟩ | rfl
    · rw [mk_hm, mk_wy]; exact d.rd _ (old q hq)
    · exact hr
  · intro t h m hm
    rcases mem h with ⟨q, hq, rfl⟩ | rfl
    · rw [mk_kd] at hm
      obtain ⟨x, hx, e1, e2, e3, e4, e5⟩ := d.kid _ (old q hq) m hm
      obtain ⟨y, hy, rfl⟩ := List.mem_map.mp hx
      refine ⟨_, inn y hy, by rw [mk_tg]; exact e1, (mk_hd _ _).mpr (.inl e2), ?_, ?_, ?_⟩
      · rw [mk_bs, mk_bs]; exact e3
      · rw [mk_bs, mk_bs]; exact e4
      · rw [mk_hm, mk_hm, mk_wy]; exact e5
    · obtain ⟨k, hk', rfl⟩ := List.mem_map.mp (pm.mem_iff.mp hm)
      obtain ⟨h1, h2, h3⟩ := hk k hk'
      refine ⟨_, inn k (sub.subset hk'), mk_tg _ _, (mk_hd _ _).mpr (.inr (List.mem_map.mpr ⟨k, hk', rfl⟩)), ?_, ?_, ?_⟩
      · rw [mk_bs]; exact longer k hk'
      · rw [mk_bs]; exact h1
      · rw [mk_hm, mk_wy]; exact h3
  · rw [List.flatMap_append, List.nodup_append]
    have e : ((ps.map (mk (ks.map (·.1)))).map (·.2)).flatMap (·.kd) = (ps.map (·.2)).flatMap (·.kd) := by
      rw [List.flatMap_def, List.flatMap_def, List.map_map, List.map_map, List.map_map]
      exact congrArg List.flatten (List.map_congr_left fun q _ => mk_kd _ q)
    rw [e]
    refine ⟨d.dis, ?_, fun u hu v hv => ?_⟩
    · simp only [List.flatMap_cons, List.flatMap_nil, List.append_nil]
      exact pm.nodup_iff.mpr (tU.sublist (sub.map _))
    · simp only [List.flatMap_cons, List.flatMap_nil, List.append_nil] at hv
      intro z
      subst z
      obtain ⟨t, ht', hu⟩ := List.mem_flatMap.mp hu
      obtain ⟨x, hx, e1, e2, _⟩ := d.kid t ht' u hu
      obtain ⟨y, hy, rfl⟩ := List.mem_map.mp hx
      obtain ⟨k, hk', e3⟩ := List.mem_map.mp (pm.mem_iff.mp hv)
      have := uni y hy k (sub.subset hk') (e1.trans e3.symm)
      subst this
      have := (hk y hk').2.1
      rw [this] at e2; cases e2
  · intro t h
    rcases mem h with ⟨q, hq, rfl⟩ | rfl
    · rw [mk_kd]; exact d.srt _ (old q hq)
    · exact so
  · intro t h
    cases ps with
    | nil =>
      have : ks = [] := List.sublist_nil.mp sub
      subst this
      have : kd = [] := pm.eq_nil
      subst this
      simp at h
      rw [← h]
    | cons q r =>
      simp at h
      rw [← h, mk_kd]
      exact d.fst _ rfl
end
end Cw

/-! CwU1 -/
set_option Elab.async false
set_option linter.all false
set_option maxRecDepth 100000
set_option maxHeartbeats 4000000
namespace Cw
open PySem PySem.Spec PyProof.Rows L2
section
variable {P : Program} {w : World} {K : PySem.W.Frag} {mg : Str → Option Value} {base : Heap}
/-! the last rows of a thing -/
theorem seq_gen {A B : TS} {D : L2.Ends} {σ : L2.St} {H : Hp} (Pre : L2.St → Hp → Prop) (h2 : ∀ σ' H', Pre σ' H' → B D σ' H') (h1 : ∀ N : L2.St → Hp → Prop, (∀ σ' H', Pre σ' H' → N σ' H') → A { D with nx := N } σ H) : tSeq A B D σ H := h1 _ h2
def foundK (tag bits home : Str) (rA : Addr) : List (Key × V) := [(Sum.inr "tag", .str tag), (Sum.inr "bits", .str bits), (Sum.inr "home", .str home), (Sum.inr "road", .ref rA), (Sum.inr "held", .bl false)]
def endK (kA : Addr) (sh : Bool) : List (Key × V) := [(Sum.inr "kids", .ref kA), (Sum.inr "shut", .bl sh)]
def ThNew (H0 H : Hp) (p : Addr) (t : Th) : Prop := ∃ rA kA, H p = some (.dK (thK t rA kA)) ∧ H rA = some (.dK (dk t.wy)) ∧ H kA = some (.lst (sL t.kd)) ∧ H0 kA = none
theorem ThNew.at {H0 H : Hp} {p : Addr} {t : Th} (h : ThNew H0 H p t) : ThAt H p t := by
  obtain ⟨rA, kA, h1, h2, h3, _⟩ := h
  exact ⟨rA, kA, h1, h2, h3⟩
theorem thing_tail {K : PySem.W.Frag} {tk tsh : TE} {σ : L2.St} {H : Hp} {D : L2.Ends} {a l : Addr} {ss : List Str} {tag bits home : Str} {sh : Bool} {kds : List Str → Prop}
    (h0 : σ[0]? = some (some (.ref a))) (h1 : σ[1]? = some (some (.ref l))) (h2 : σ[2]? = some (some (.str bits))) (h6 : σ[6]? = some (some (.str tag))) (h7 : σ[7]? = some (some (.str home))) (h5 : 5 < σ.length)
    (hp : PotAt H a) (hl : off a H l = some (.lst (sL ss))) (nd : ss.Nodup) (l5 : ss.length ≤ 5) (hm : home ∈ ss)
    (hk : ∀ (f : V) (H' : Hp) (Qk : VK), Go a H H' → (∀ kA kd H'', Same H' H'' → H'' kA = some (.lst (sL kd)) → H' kA = none → kds kd → Qk (.ref kA) H'') → tk (σ.set 5 (some f)) H' Qk)
    (hs : ∀ (f : V) (H' : Hp) (Qs : VK), Qs (.bl sh) H' → tsh (σ.set 5 (some f)) H' Qs)
    (k : ∀ H' q wy kd, Go a H H' → off a H q = none → ThNew (off a H) (off a H') q ⟨tag, bits, home, wy, false, kd, sh⟩ → RoadOk ss home wy → kds kd → D.rt (.ref q) H') :
    tSeq (tAsg (tDisp [(tC (.str "tag"), tVar 6), (tC (.str "bits"), tVar 2), (tC (.str "home"), tVar 7), (tC (.str "road"), tCal sp_law_road (tCons (tVar 0) (tCons (tVar 1) (tCons (tVar 7) tNil)))), (tC (.str "held"), tC (.bl false))]) (gName 5))
      (tRet (tCB (fun xs H Q => ∃ a ps kvs, xs = [V.ref a] ∧ SqL K H a (List.map V.ref ps) ∧ Paired (fun p kv => SqT K H p [kV kv.fst, kv.snd]) ps kvs ∧ ∀ (p : Addr), H p = none → Q (V.ref p) (upd H p (HO.dK (mergeK [] kvs))))
        (tCons (tOp rCat (LiI.tListItems (tVar 5)) (tLst (tCons (tTup (tCons (tC (.str "kids")) (tCons tk tNil))) (tCons (tTup (tCons (tC (.str "shut")) (tCons tsh tNil))) tNil)))) tNil))) D σ H := by
  intro f nf
  have fa := hp.new nf
  have g1 : Go a H (upd H f (.dK [])) := Go.of (same_upd nf) hp
  refine ⟨_, h6, _, h2, _, h7, _, h0, _, h1, _, h7, a, l, ss, home, rfl, g1.2, g1.1 _ _ hl, nd, l5, hm, fun H1 rA wy g2 nrA hrA rd => ?_⟩
  have g3 := g1.trans g2
  have f1 := g2.at (by rw [off_ne fa]; exact upd_same)
  have rAf : rA ≠ f := fun z => by rw [z, off_ne fa, upd_same] at nrA; cases nrA
  refine ⟨f1, [(Sum.inr "tag", .str tag), (Sum.inr "bits", .str bits), (Sum.inr "home", .str home), (Sum.inr "road", .ref rA), (Sum.inr "held", .bl false)], rfl, by show (5 : Nat) ≤ 15; decide, ?_⟩
  rw [show mergeK [] [(Sum.inr "tag", .str tag), (Sum.inr "bits", .str bits), (Sum.inr "home", .str home), (Sum.inr "road", .ref rA), (Sum.inr "held", .bl false)] = foundK tag bits home rA from rfl]
  have nfH : off a H f = none := by rw [off_ne fa]; exact nf
  have g4 : Go a H (upd H1 f (.dK (foundK tag bits home rA))) := ⟨fun b o e => by
    have bf : b ≠ f := fun z => by rw [z, nfH] at e; cases e
    have := g3.1 b o e
    have ba : b ≠ a := fun z => by rw [z, off_at] at e; cases e
    rw [off_ne ba] at this ⊢
    rw [upd_ne bf]; exact this, by
    obtain ⟨x, y, e1, e2⟩ := g3.2
    exact ⟨x, y, by rw [upd_ne (Ne.symm fa)]; exact e1, e2⟩⟩
  have hf : (upd H1 f (.dK (foundK tag bits home rA))) f = some (.dK (foundK tag bits home rA)) := upd_same
  have hr2 : (upd H1 f (.dK (foundK tag bits home rA))) rA = some (.dK (dk wy)) := by rw [upd_ne rAf]; exact off_le _ _ hrA
  have raa : rA ≠ a := fun z => by rw [z, off_at] at hrA; cases hrA
  generalize upd H1 f (.dK (foundK tag bits home rA)) = H2 at g4 hf hr2 ⊢
  refine ⟨_, by rw [List.getElem?_set_self h5], f, _, rfl, hf, fun H3 p ts e3 np nts npts hp3 hpr => ?_⟩
  have s3 : Same H2 H3 := e3
  have g5 := g4.step s3
  refine hk _ _ _ g5 fun kA kd H4 e4 hkA nkA hkd => ⟨le_line (by show (2 : Nat) ≤ 100000; decide), fun t1 n1 => hs _ _ _ ⟨le_line (by show (2 : Nat) ≤ 100000; decide), fun t2 n2 => ⟨le_line (by show (2 : Nat) ≤ 100000; decide), fun l2 n3 => ?_⟩⟩⟩
  have s4 : Same H3 (upd (upd (upd H4 t1 (.tup [.str "kids", .ref kA])) t2 (.tup [.str "shut", .bl sh])) l2 (.lst [.ref t1, .ref t2])) := (e4.trans (same_upd n1)).trans ((same_upd n2).trans (same_upd n3))
  have ht1 : (upd (upd (upd H4 t1 (.tup [.str "kids", .ref kA])) t2 (.tup [.str "shut", .bl sh])) l2 (.lst [.ref t1, .ref t2])) t1 = some (.tup [.str "kids", .ref kA]) := (same_upd n3) _ _ ((same_upd n2) _ _ upd_same)
  have ht2 : (upd (upd (upd H4 t1 (.tup [.str "kids", .ref kA])) t2 (.tup [.str "shut", .bl sh])) l2 (.lst [.ref t1, .ref t2])) t2 = some (.tup [.str "shut", .bl sh]) := (same_upd n3) _ _ upd_same
  have hk2 : (upd (upd (upd H4 t1 (.tup [.str "kids", .ref kA])) t2 (.tup [.str "shut", .bl sh])) l2 (.lst [.ref t1, .ref t2])) kA = some (.lst (sL kd)) := (same_upd n3) _ _ ((same_upd n2) _ _ ((same_upd n1) _ _ hkA))
  have hl2 : (upd (upd (upd H4 t1 (.tup [.str "kids", .ref kA])) t2 (.tup [.str "shut", .bl sh])) l2 (.lst [.ref t1, .ref t2])) l2 = some (.lst [.ref t1, .ref t2]) := upd_same
  have kAa : kA ≠ a := g5.new nkA
  generalize upd (upd (upd H4 t1 (.tup [.str "kids", .ref kA])) t2 (.tup [.str "shut", .bl sh])) l2 (.lst [.ref t1, .ref t2]) = H5 at s4 ht1 ht2 hk2 hl2 ⊢
  have lts : ts.length = 5 := (paired_len hpr)
  refine ⟨p, l2, _, _, rfl, rfl, s4 _ _ hp3, hl2, le_line (by rw [List.length_map, lts]; show (7 : Nat) ≤ 100000; decide), fun r nr => ?_⟩
  have s5 : Same H5 (upd H5 r (.lst (ts.map V.ref ++ [.ref t1, .ref t2]))) := same_upd nr
  refine ⟨r, ts ++ [t1, t2], foundK tag bits home rA ++ endK kA sh, rfl, SqL.of (by rw [upd_same]; simp), ?_, fun q nq => ?_⟩
  · refine paired_append (paired_mono hpr fun t kv h => .inl (.inl (s5 _ _ (s4 _ _ h)))) (.cons (.inl (.inl (s5 _ _ ht1))) (.cons (.inl (.inl (s5 _ _ ht2))) .nil))
  · have g6 := (g5.step s4).step s5
    have qa := g6.new nq
    have s6 : Same (upd H5 r (.lst (ts.map V.ref ++ [.ref t1, .ref t2]))) (upd (upd H5 r (.lst (ts.map V.ref ++ [.ref t1, .ref t2]))) q (.dK (thK ⟨tag, bits, home, wy, false, kd, sh⟩ rA kA))) := same_upd nq
    refine k _ q wy kd (g6.step s6) (g6.free nq) ⟨rA, kA, ?_, ?_, ?_, g5.free nkA⟩ rd hkd
    · rw [off_ne qa]; exact upd_same
    · rw [off_ne raa]; exact s6 _ _ (s5 _ _ (s4 _ _ (s3 _ _ hr2)))
    · rw [off_ne kAa]; exact s6 _ _ (s5 _ _ hk2)
end
end Cw

/-! CwV -/
set_option Elab.async false
set_option linter.all false
set_option maxRecDepth 100000
set_option maxHeartbeats 4000000
namespace Cw
open PySem PySem.Spec PyProof.Rows L2
section
variable {P : Program} {w : World} {K : PySem.W.Frag} {mg : Str → Option Value} {base : Heap}
/-! a thing is dealt -/
def Ths (H : Hp) (ps : List (Addr × Th)) : Prop := ∀ q ∈ ps, ThAt H q.1 q.2
theorem Ths.mono {H H' : Hp} {ps : List (Addr × Th)} (h : Ths H ps) (e : Same H H') : Ths H' ps := fun q hq => (h q hq).mono e
def trefs (ps : List (Addr × Th)) : List V := ps.map fun q => V.ref q.1
theorem trefs_len (ps : List (Addr × Th)) : (trefs ps).length = ps.length := List.length_map ..
/-- all but the pot and what S tells stands -/
def Gx (a : Addr) (S : List Addr) (H H' : Hp) : Prop := SameX (fun b => b = a ∨ b ∈ S) H H' ∧ PotAt H' a
theorem Go.x {a : Addr} {H H' : Hp} (S : List Addr) (g : Go a H H') : Gx a S H H' := ⟨fun b o n e => g.at (by rw [off_ne (fun z => n (.inl z))]; exact e), g.2⟩
theorem Gx.trans {a : Addr} {S : List Addr} {H H1 H2 : Hp} (x : Gx a S H H1) (y : Gx a S H1 H2) : Gx a S H H2 := ⟨x.1.trans y.1, y.2⟩
theorem dk_thK {wy : List (Str × Str)} {t : Th} {rA kA : Addr} : dk wy ≠ thK t rA kA := fun e => by
  have h := congrArg (fun l => l[3]?) e
  simp only [dk, thK, List.getElem?_map] at h
  cases hw : wy[3]? with
  | none => rw [hw] at h; simp at h
  | some p => rw [hw] at h; simp at h
def tagC : List Nat := [116, 112, 119, 113, 118, 114, 117, 115]
theorem tagC_1 : ("tpwqvrus" : Str).cps.toList = tagC := by decide +kernel
theorem tagC_2 : tags = tagC.map fun c => (⟨#[c]⟩ : Str) := by decide +kernel
theorem tag_at {n : Nat} (h : n ≤ 7) : ∃ c, ("tpwqvrus" : Str).cps.toList[n]? = some c ∧ tags[n]? = some ⟨#[c]⟩ := by
  obtain ⟨c, hc⟩ : ∃ c, tagC[n]? = some c := ⟨_, List.getElem?_eq_getElem (by show n < 8; omega)⟩
  exact ⟨c, by rw [tagC_1]; exact hc, by rw [tagC_2, List.getElem?_map, hc]; rfl⟩
theorem sL_ne {l : List Str} (h : l ≠ []) : sL l ≠ [] := by
  cases l with
  | nil => exact absurd rfl h
  | cons _ _ => exact fun z => nomatch z
def kidOk (bits : Str) (q : Addr × Th) : Bool := decide (pre bits q.2.bs) && !q.2.hd
def seesAll (ks : List (Addr × Th)) (s : Str) : Bool := ks.all fun k => decide (s ∈ keys k.2.wy ∨ s = k.2.hm)
def sp_law_thing : Sp := fun vs H Q _ => ∃ (a l u : Addr) (ss : List Str) (bits : Str) (ps : List (Addr × Th)), vs = [.ref a, .ref l, .str bits, .ref u] ∧ PotAt H a ∧ off a H l = some (.lst (sL ss)) ∧ ss.Nodup ∧ ss ≠ [] ∧ ss.length ≤ 5 ∧
  off a H u = some (.lst (trefs ps)) ∧ Ths (off a H) ps ∧ (ps.map (·.1)).Nodup ∧ ps.length ≤ 7 ∧ Dl ss (ps.map (·.2)) ∧ isBits bits ∧ bits ∉ ps.map (fun q => q.2.bs) ∧
  ∀ H' q t ps', Gx a (ps.map (·.1)) H H' → H q = none → ps'.map (·.1) = ps.map (·.1) → ps'.map (fun q => q.2.bs) = ps.map (fun q => q.2.bs) → Ths (off a H') ps' → ThNew H (off a H') q t → t.bs = bits → Dl ss (ps'.map (·.2) ++ [t]) → Q (.ref q) H'
/-! _law_thing: 0:_law_pot_here 1:_law_spots_here *2:_law_bits 3:_law_under *4:_law_kids 5:_law_found 6:_law_tag 7:_law_home 8:_law_homes 9:_law_low_here 10:_law_shut 11:_law_spot -/
abbrev n_law_thing : List Str := ["_law_pot_here", "_law_spots_here", "_law_bits", "_law_under", "_law_kids", "_law_found", "_law_tag", "_law_home", "_law_homes", "_law_low_here", "_law_shut", "_law_spot"]
theorem sc_law_thing : FnScope n_law_thing ["_law_pot_here", "_law_spots_here", "_law_bits", "_law_under"] (defScope s_law_thing) := ⟨rfl, rfl, rfl, by decide +kernel, rfl, by decide +kernel, by decide +kernel⟩
theorem c_law_thing (T : Txt K mg) : Cal P w K mg base 4 (He.ga K "_law_thing") ["_law_pot_here", "_law_spots_here", "_law_bits", "_law_under"] sp_law_thing := by
  refine T.d_law_thing.cal sc_law_thing (fun _ _ _ _ _ _ us hl => match us, hl with | [_, _, _, _], _ => rfl) (fun vs H Q E h => ?_) (fun cdv A outer s H vs Q E hr h => ?_)
  · obtain ⟨_, _, _, _, _, _, rfl, _⟩ := h; rfl
  · obtain ⟨a, l, u, ss, bits, ps, rfl, hp, hl, nd, hne, h5, hu', hth, ndp, h7, dl, hb, hbn, k⟩ := h
    have hu := hu_of hr
    refine ⟨_, (pss_cons (ps_set (i := 4) sc_law_thing.nd rfl (Or.inr rfl) (pe_lc (own := [("_law_low_here", 9)]) (g := gName 9) rfl sc_law_thing.nd (kpi_list K (pv 3)) (blkOk_by (N := n_law_thing) (sc := defScope s_law_thing) (by decide +kernel)) (fun _ _ _ _ _ => (pg_name (i := 9) sc_law_thing.nd rfl (Or.inl rfl))) (fun _ _ _ _ _ => (pts_one (PW.pt (pw_and (pt_val (pe_sw (pe_dget hu (pv 9) pe_str (fun _ _ => rfl)) (pv 2))) (pw_and1 (pt_not (pt_val (pe_dget hu (pv 9) pe_str (fun _ _ => rfl))))))))) (fun _ _ _ _ _ => (pv 9))))
      (pss_cons (ps_par (i := 6) (j := 7) rfl sc_law_thing.nd rfl rfl (by decide) rfl rfl (pa_cons (pe_ix ix_str pe_str (pe_callB (kcall_len_seq K) (by rfl) T.b_len bt_len (pa_cons (pv 3) pa_nil)) (fun _ _ => rfl)) (pa_cons (pe_cal (c_law_among T) (hr.mono (by decide)) (by rfl) T.g_law_among (pa_cons (pv 0) (pa_cons (pv 1) pa_nil))) pa_nil)) (by rfl))
      (pss_cons (ps_if (PW.pt (pw_and (pt_cmpR (op_neNil K hr.units0) (pv 4) (pe_lst pa_nil) (nomark _)) (pw_and1 (pt_cmpR op_gt (pe_cal (c_law_draw T) (hr.mono (by decide)) (by rfl) T.g_law_draw (pa_cons (pv 0) (pa_cons pe_int pa_nil))) pe_int (nomark _)))))
        (pss_cons (ps_set (i := 4) sc_law_thing.nd rfl (Or.inr rfl) (pe_slice (ksl_list K) (pv 4) po_none (po_some (pe_op op_add pe_int (pe_cal (c_law_draw T) (hr.mono (by decide)) (by rfl) T.g_law_draw (pa_cons (pv 0) (pa_cons (pe_callB (kcall_len_seq K) (by rfl) T.b_len bt_len (pa_cons (pv 4) pa_nil)) pa_nil)))))))
        (pss_cons (ps_setLc (i := 8) (own := [("_law_spot", 11)]) (g := gName 11) rfl sc_law_thing.nd rfl rfl (sw_true rfl rfl rfl (by decide +kernel)) (kpi_list K (pv 1)) (blkOk_by (N := n_law_thing) (sc := defScope s_law_thing) (by decide +kernel)) (fun _ _ _ _ _ => (pg_name (i := 11) sc_law_thing.nd rfl (by first | exact Or.inl rfl | exact Or.inr rfl))) (fun _ _ _ _ _ => (pts_one (pt_val (pe_callB (kcr_all K rfl) (by rfl) T.b_all bt_all (pa_cons (pe_lc (own := [("_law_low_here", 9)]) (g := gName 9) (tt := tYes) rfl sc_law_thing.nd (kpi_list K (pv 4)) (show BlkOk n_law_thing ⟨.function, [(".0", .local), ("_law_spot", .cell), ("all", .globalImplicit), ("_law_kids", .cell)], false, false, []⟩ _ _ from blkOk_by (by decide +kernel)) (fun _ _ _ _ _ => (pg_name (i := 9) sc_law_thing.nd rfl (Or.inl rfl))) (fun _ _ _ _ _ => pts_nil) (fun _ _ _ _ _ => (pe_cmpR (kop_in_seq K) (pv 11) (pe_cal (c_law_eyes T) (hr.mono (by decide)) (by rfl) T.g_law_eyes (pa_cons (pv 9) pa_nil)) (by rfl)))) pa_nil))))) (fun _ _ _ _ _ => (pv 11)))
        (pss_one (ps_if (pt_cmpR (op_neNil K hr.units0) (pv 8) (pe_lst pa_nil) (nomark _))
          (pss_cons (ps_for PassesOwn.never rfl (kpi_list K (pv 4)) (pg_name (i := 9) sc_law_thing.nd rfl (Or.inl rfl))
            (pss_one (ps_dput hu (pv 9) pe_str pe_bl rfl)))
          (pss_cons (ps_par (i := 7) (j := 10) rfl sc_law_thing.nd rfl rfl (by decide) rfl rfl (pa_cons (pe_cal (c_law_among T) (hr.mono (by decide)) (by rfl) T.g_law_among (pa_cons (pv 0) (pa_cons (pv 8) pa_nil))) (pa_cons (pe_cmpR op_eq (pe_cal (c_law_draw T) (hr.mono (by decide)) (by rfl) T.g_law_draw (pa_cons (pv 0) (pa_cons pe_int pa_nil))) pe_int (nomark _)) pa_nil)) (by rfl))
          (pss_cons (ps_set (i := 5) sc_law_thing.nd rfl (Or.inl rfl) (pe_disp (pps_cons pe_str (pv 6) (pps_cons pe_str (pv 2) (pps_cons pe_str (pv 7) (pps_cons pe_str (pe_cal (c_law_road T) (hr.mono (by decide)) (by rfl) T.g_law_road (pa_cons (pv 0) (pa_cons (pv 1) (pa_cons (pv 7) pa_nil)))) (pps_cons pe_str pe_bl pps_nil))))) (by rfl) (by rfl) (fun z => by cases z) (by decide)))
          (pss_one (ps_ret (pe_callTy (kcall_dictP K rfl) (by rfl) T.b_dict bt_dict (pa_cons (pe_op op_cat (LiI.pe_listItems rfl (pv 5) (by rfl) T.b_list bt_list) (pe_lst (pa_cons (pe_tup (pa_cons pe_str (pa_cons (pe_callB (kcr_sortedS K) (by rfl) T.b_sorted bt_sorted (pa_cons (pe_lc (own := [("_law_low_here", 9)]) (g := gName 9) (tt := tYes) rfl sc_law_thing.nd (kpi_list K (pv 4)) (blkOk_by (N := n_law_thing) (sc := defScope s_law_thing) (by decide +kernel)) (fun _ _ _ _ _ => (pg_name (i := 9) sc_law_thing.nd rfl (Or.inl rfl))) (fun _ _ _ _ _ => pts_nil) (fun _ _ _ _ _ => (pe_dget hu (pv 9) pe_str (fun _ _ => rfl)))) pa_nil)) pa_nil))) (pa_cons (pe_tup (pa_cons pe_str (pa_cons (pv 10) pa_nil))) pa_nil)))) pa_nil))))))) pss_nil)))) pss_nil)
      (pss_cons (ps_set (i := 5) sc_law_thing.nd rfl (Or.inl rfl) (pe_disp (pps_cons pe_str (pv 6) (pps_cons pe_str (pv 2) (pps_cons pe_str (pv 7) (pps_cons pe_str (pe_cal (c_law_road T) (hr.mono (by decide)) (by rfl) T.g_law_road (pa_cons (pv 0) (pa_cons (pv 1) (pa_cons (pv 7) pa_nil)))) (pps_cons pe_str pe_bl pps_nil))))) (by rfl) (by rfl) (fun z => by cases z) (by decide)))
      (pss_one (ps_ret (pe_callTy (kcall_dictP K rfl) (by rfl) T.b_dict bt_dict (pa_cons (pe_op op_cat (LiI.pe_listItems rfl (pv 5) (by rfl) T.b_list bt_list) (pe_lst (pa_cons (pe_tup (pa_cons pe_str (pa_cons (pe_lst pa_nil) pa_nil))) (pa_cons (pe_tup (pa_cons pe_str (pa_cons pe_bl pa_nil))) pa_nil)))) pa_nil)))))))), ?_⟩
    have hua : u ≠ a := fun z => by rw [z, off_at] at hu'; cases hu'
    have hu0 := off_le _ _ hu'
    refine ⟨_, rfl, u, rfl, ⟨_, SqL.of hu0⟩, ?_⟩
    refine lcG ps (kidOk bits) (fun q v _ => v = .ref q.1) (by omega) (fun _ _ _ _ _ h => h) ?_ ?_ ?_ ?_
    · intro i H' hi e; exact itl_go (SqL.of (e _ _ hu0)) (by rw [trefs_len]; exact hi)
    · intro H' e; exact itl_stop (SqL.of (e _ _ hu0)) (trefs_len _)
    · intro i q D x G1 G2 hq nD hD e y Ry Rn hy hno
      obtain ⟨rfl, hx⟩ := y
      have hx' := hx _ (SqL.of (off_le _ _ (e _ _ hu0)))
      rw [trefs, List.getElem?_map, hq] at hx'
      cases hx'
      obtain ⟨rA, kA, t1, t2, t3⟩ := hth q (List.mem_of_getElem? hq)
      have t1' := off_le _ _ (e _ _ (off_le _ _ t1))
      refine ⟨rfl, _, rfl, q.1, .str q.2.bs, rfl, .inl ⟨_, (Sum.inr "bits" : Key), .inl t1', rfl, rfl⟩, ⟨_, rfl⟩, _, rfl, _, _, rfl, rfl, _, rfl, ?_⟩
      rw [sw_dec]
      by_cases h0 : pre bits q.2.bs
      · rw [decide_eq_true h0]
        refine iteT ⟨_, rfl, q.1, .bl q.2.hd, rfl, .inl ⟨_, (Sum.inr "held" : Key), .inl t1', rfl, rfl⟩, _, rfl, ?_⟩
        cases hh : q.2.hd with
        | true => exact iteF (hno (by unfold kidOk; rw [hh]; simp) _ (Same.refl _))
        | false => exact iteT ⟨_, rfl, hy (by unfold kidOk; rw [hh, decide_eq_true h0]; rfl) _ _ (Same.refl _) rfl⟩
      · rw [decide_eq_false h0]
        exact iteF (iteF (hno (by unfold kidOk; rw [decide_eq_false h0]; rfl) _ (Same.refl _)))
    intro D H1 ys nD e hD hpp
    have ey : ys = trefs (ps.filter (kidOk bits)) := paired_eq (r := fun q : Addr × Th => V.ref q.1) hpp
    subst ey
    have s1 : Same H H1 := e.trans off_le
    have g1 : Go a H H1 := Go.of s1 hp
    have Da : D ≠ a := hp.new nD
    clear hpp
    obtain ⟨c, hc1, hc2⟩ := tag_at h7
    refine ⟨_, rfl, u, _, rfl, .inl (SqL.of (s1 _ _ hu0)), _, _, c, rfl, rfl, le_line (by decide +kernel), atI_nat (by rw [trefs_len]; exact hc1), ?_⟩
    refine ⟨_, rfl, _, rfl, a, l, sL ss, rfl, g1.2, g1.1 _ _ hl, sL_ne hne, by rw [sL_len]; omega, fun H2 v g2 hv => ⟨_, _, rfl, ?_⟩⟩
    obtain ⟨home, hm, rfl⟩ := List.mem_map.mp hv
    have g3 := g1.trans g2
    have hD2 : off a H2 D = some (.lst (trefs (ps.filter (kidOk bits)))) := g2.1 _ _ (by rw [off_ne Da]; exact hD)
    dsimp only
    refine seq_gen (fun σ' H' => Go a H H' ∧ ∃ (h' : Str) (u4 u5 u8 u9 u10 u11 : Option V), h' ∈ ss ∧ σ' = [some (.ref a), some (.ref l), some (.str bits), some (.ref u), u4, u5, some (.str ⟨#[c]⟩), some (.str h'), u8, u9, u10, u11]) ?_ ?_
    · rintro σ' H' ⟨g, h', u4, u5, u8, u9, u10, u11, hm', rfl⟩
      refine thing_tail (kds := fun kd => kd = []) (sh := false) rfl rfl rfl rfl rfl (by show (5 : Nat) < 12; decide) g.2 (g.1 _ _ hl) nd h5 hm' (fun f H' Qk g q => ⟨le_line (by show (0 : Nat) ≤ 100000; decide), fun l nl => q l [] _ (same_upd nl) upd_same nl rfl⟩) (fun f H' Qs q => q) fun H3 q wy kd g' fr th rd hkd => ?_
      subst hkd
      have g9 := g.trans g'
      have qa : q ≠ a := fun z => by obtain ⟨_, _, z1, _⟩ := th; rw [z, off_at] at z1; cases z1
      have hq0 : H q = none := off_none (g.1.free fr) qa
      obtain ⟨rA, kA, z1, z2, z3, z4⟩ := th
      refine k H3 q _ ps (g9.x _) hq0 rfl rfl (hth.mono g9.1) ⟨rA, kA, z1, z2, z3, off_none (g.1.free z4) (fun z => by rw [z, off_at] at z3; cases z3)⟩ rfl ?_
      have := dl_new (ks := []) (sh := false) (kd := []) dl ndp h7 hc2 hb hbn hm' rd (List.nil_sublist _) (by simp) (by simp) (by decide)
      rwa [List.map_nil, mk_nil] at this
    · intro N hN
      refine ⟨_, rfl, le_line (by show (0 : Nat) ≤ 100000; decide), fun e1 n1 => ⟨D, e1, _, rfl, rfl, SqL.of (same_upd n1 _ _ (off_le _ _ hD2)), SqL.of upd_same, _, rfl, ?_⟩⟩
      have g4 : Go a H2 (upd H2 e1 (.lst [])) := Go.of (same_upd n1) g2.2
      generalize upd H2 e1 (.lst []) = H3 at g4 ⊢
      by_cases h0 : ps.filter (kidOk bits) = []
      · rw [h0]
        exact iteF (iteF (hN _ _ ⟨g3.trans g4, home, _, _, _, _, _, _, hm, rfl⟩))
      · have : (trefs (ps.filter (kidOk bits))).isEmpty = false := by
          cases hh : ps.filter (kidOk bits) with
          | nil => exact absurd hh h0
          | cons _ _ => rfl
        rw [this]
        refine iteT ⟨_, rfl, a, 4, rfl, g4.2, by decide, by decide, fun H4 d g5 hd => ⟨_, _, rfl, rfl, _, rfl, ?_⟩⟩
        have g6 := g4.trans g5
        by_cases d0 : (0 : Int) < (d : Nat)
        · rw [decide_eq_true d0]
          refine iteT ?_
          have hD4 := g6.1 _ _ hD2
          refine ⟨_, rfl, _, rfl, _, rfl, D, _, rfl, .inl (SqL.of (off_le _ _ hD4)), a, (ps.filter (kidOk bits)).length, by rw [trefs_len], g6.2, List.length_pos_iff.mpr h0, by have := List.length_filter_le (kidOk bits) ps; omega, fun H5 d2 g7 hd2 => ⟨_, _, rfl, rfl, _, rfl, D, _, rfl, SqL.of (g7.at hD4), fun E nE => ?_⟩⟩
          rw [show (1 : Int) + (d2 : Nat) = ((1 + d2 : Nat) : Int) by omega, cut_to, show (trefs (ps.filter (kidOk bits))).take (1 + d2) = trefs ((ps.filter (kidOk bits)).take (1 + d2)) by unfold trefs; rw [List.map_take]]
          have sub : ((ps.filter (kidOk bits)).take (1 + d2)).Sublist ps := (List.take_sublist _ _).trans List.filter_sublist
          have hkk : ∀ q ∈ (ps.filter (kidOk bits)).take (1 + d2), pre bits q.2.bs ∧ q.2.hd = false := fun q hq => by
            have := (List.mem_filter.mp (List.mem_of_mem_take hq)).2
            unfold kidOk at this
            rw [Bool.and_eq_true, decide_eq_true_iff] at this
            exact ⟨this.1, by simpa using this.2⟩
          have g8 : Go a H (upd H5 E (.lst (trefs ((ps.filter (kidOk bits)).take (1 + d2))))) := ((g3.trans g6).trans g7).step (same_upd nE)
          have Ea : E ≠ a := g7.new nE
          have hE : off a (upd H5 E (.lst (trefs ((ps.filter (kidOk bits)).take (1 + d2))))) E = some (.lst (trefs ((ps.filter (kidOk bits)).take (1 + d2)))) := by rw [off_ne Ea]; exact upd_same
          generalize upd H5 E (.lst (trefs ((ps.filter (kidOk bits)).take (1 + d2)))) = H6 at g8 hE ⊢
          generalize (ps.filter (kidOk bits)).take (1 + d2) = ks at sub hkk hE ⊢
          have lks : ks.length ≤ 7 := Nat.le_trans sub.length_le h7
          have hE0 := off_le _ _ hE
          refine ⟨_, rfl, l, rfl, ⟨_, SqL.of (g8.at hl)⟩, ?_⟩
          refine lcG ss (seesAll ks) (fun s v _ => v = .str s) (by omega) (fun _ _ _ _ _ h => h) ?_ ?_ ?_ ?_
          · intro i H' hi e; exact itl_go (SqL.of (e _ _ (g8.at hl))) (by rw [sL_len]; exact hi)
          · intro H' e; exact itl_stop (SqL.of (e _ _ (g8.at hl))) (sL_len _)
          · intro i s B x G1 G2 hs nB hB e y Ry Rn hy hno
            obtain ⟨rfl, hx⟩ := y
            have hx' := hx _ (SqL.of (off_le _ _ (e _ _ (g8.at hl))))
            rw [sL, List.getElem?_map, hs] at hx'
            cases hx'
            have hE2 := off_le _ _ (e _ _ hE0)
            refine ⟨rfl, _, rfl, E, rfl, ⟨_, SqL.of hE2⟩, ?_⟩
            refine lcY ks (fun k v _ => v = .bl (decide (s ∈ keys k.2.wy ∨ s = k.2.hm))) (by omega) (fun _ _ _ _ _ h => h) ?_ ?_ ?_ ?_
            · intro j H' hj e'; exact itl_go (SqL.of (e' _ _ hE2)) (by rw [trefs_len]; exact hj)
            · intro H' e'; exact itl_stop (SqL.of (e' _ _ hE2)) (trefs_len _)
            · intro j q C x' G3 G4 hq nC hC e' y' Ry' Rn' hy'
              obtain ⟨rfl, hx2⟩ := y'
              have hx3 := hx2 _ (SqL.of (off_le _ _ (e' _ _ hE2)))
              rw [trefs, List.getElem?_map, hq] at hx3
              cases hx3
              obtain ⟨rA, kA, t1, t2, t3⟩ := hth q (sub.subset (List.mem_of_getElem? hq))
              have up : ∀ b o, off a H b = some o → G4 b = some o := fun b o hb => off_le _ _ (e' _ _ (off_le _ _ (e _ _ (off_le _ _ (g8.1 _ _ hb)))))
              have rl : q.2.wy.length ≤ 20 := by
                have r1 := dl.rd _ (List.mem_map.mpr ⟨q, sub.subset (List.mem_of_getElem? hq), rfl⟩)
                have r2 := dl.hm _ (List.mem_map.mpr ⟨q, sub.subset (List.mem_of_getElem? hq), rfl⟩)
                have := road_len r1 r2
                omega
              refine ⟨rfl, _, rfl, _, rfl, q.1, rA, thK q.2 rA kA, q.2.hm, q.2.wy, rfl, up _ _ t1, rfl, rfl, up _ _ t2, rl, fun G5 q5 ys e6 nq hq5 pm => ⟨q5, _, rfl, .inl (SqL.of hq5), rfl, flat_str _, ?_⟩⟩
              rw [if_neg (by decide), inV_str]
              refine hy' _ _ e6 (congrArg V.bl ?_)
              rw [Bool.eq_iff_iff, List.contains_iff_mem, pm.mem_iff, decide_eq_true_iff, List.mem_append, List.mem_singleton]
            intro C G3 bs nC e2 hC hpb
            have eb := paired_bl (bf := fun k : Addr × Th => decide (s ∈ keys k.2.wy ∨ s = k.2.hm)) hpb
            subst eb
            refine ⟨C, _, rfl, SqL.of hC, _, rfl, ?_⟩
            have ea : (ks.map fun k : Addr × Th => decide (s ∈ keys k.2.wy ∨ s = k.2.hm)).all id = seesAll ks s := by
              rw [List.all_map]; rfl
            rw [ea]
            cases hb2 : seesAll ks s with
            | true => exact iteT ⟨_, rfl, hy hb2 _ _ (e2.trans off_le) rfl⟩
            | false => exact iteF (hno hb2 _ (e2.trans off_le))
          intro F H7 hs nF e7 hF hp7
          have eh := paired_str (sf := fun s : Str => s) hp7
          rw [List.map_id'] at eh
          subst eh
          clear hp7
          have g9 : Go a H H7 := g8.step (e7.trans off_le)
          have Fa : F ≠ a := g8.new nF
          have hE7 : H7 E = some (.lst (trefs ks)) := e7.trans off_le _ _ hE0
          refine ⟨_, rfl, le_line (by show (0 : Nat) ≤ 100000; decide), fun e3 n3 => ⟨F, e3, _, rfl, rfl, SqL.of (same_upd n3 _ _ hF), SqL.of upd_same, _, rfl, ?_⟩⟩
          have g10 : Go a H (upd H7 e3 (.lst [])) := g9.step (same_upd n3)
          have hE8 : (upd H7 e3 (.lst [])) E = some (.lst (trefs ks)) := same_upd n3 _ _ hE7
          have hF8 : (upd H7 e3 (.lst [])) F = some (.lst (sL (ss.filter (seesAll ks)))) := same_upd n3 _ _ hF
          generalize upd H7 e3 (.lst []) = H8 at g10 hE8 hF8 ⊢
          by_cases hh : ss.filter (seesAll ks) = []
          · rw [hh]
            exact iteF (hN _ _ ⟨g10, home, _, _, _, _, _, _, hm, rfl⟩)
          · have : (sL (ss.filter (seesAll ks))).isEmpty = false := by
              cases hz : ss.filter (seesAll ks) with
              | nil => exact absurd hz hh
              | cons _ _ => rfl
            rw [this]
            refine iteT ?_
            have inst : ∀ (b : Addr) (xs : List V) (q : Addr × Th) (G : Hp), G b = some (.lst xs) → ThAt (off a G) q.1 q.2 → b ≠ q.1 := fun b xs q G h1 h2 z => by
              obtain ⟨_, _, h3, _⟩ := h2
              have h3 := off_le _ _ h3
              rw [← z, h1] at h3; cases h3
            refine ⟨_, rfl, E, rfl, ⟨_, SqL.of hE8⟩, ?_⟩
            refine forG ks.length (fun i σ H' => Gx a (ps.map (·.1)) H H' ∧ H' E = some (.lst (trefs ks)) ∧ H' F = some (.lst (sL (ss.filter (seesAll ks)))) ∧ Ths (off a H') (ps.map (mk ((ks.map (·.1)).take i))) ∧
              ∃ u5 u9 u10 u11, σ = [some (.ref a), some (.ref l), some (.str bits), some (.ref u), some (.ref E), u5, some (.str ⟨#[c]⟩), some (.str home), some (.ref F), u9, u10, u11]) ⟨g10.x _, hE8, hF8, ?_, _, _, _, _, rfl⟩ ?_ ?_ ?_ ?_
            · rw [List.take_zero, mk_nil]; exact hth.mono g10.1
            · rintro i σ H' hi ⟨_, hq, _⟩; exact itl_go (SqL.of hq) (by rw [trefs_len]; exact hi)
            · rintro σ H' ⟨_, hq, _⟩; exact itl_stop (SqL.of hq) (trefs_len _)
            · rintro i x σ H9 _ hi ⟨gx, hE9, hF9, th9, u5, u9, u10, u11, rfl⟩ ⟨rfl, hx⟩
              rename Hp => H9
              obtain ⟨q, hq⟩ : ∃ q, ks[i]? = some q := ⟨_, List.getElem?_eq_getElem hi⟩
              have hx' := hx _ (SqL.of hE9)
              rw [trefs, List.getElem?_map, hq] at hx'
              cases hx'
              have qps := sub.subset (List.mem_of_getElem? hq)
              have hq9 := th9 _ (List.mem_map.mpr ⟨q, qps, rfl⟩)
              obtain ⟨rA, kA, t1, t2, t3⟩ := hq9
              rw [mk_1] at t1
              have t1' := off_le _ _ t1
              refine ⟨_, rfl, q.1, _, rfl, .inl ⟨_, (Sum.inr "held" : Key), t1', rfl, lt_line (by show (7 : Nat) ≤ 100000; decide), rfl⟩, ?_⟩
              have qa : q.1 ≠ a := fun z => by rw [z, off_at] at t1; cases t1
              have stay : ∀ b o, b ≠ q.1 → H9 b = some o → (upd H9 q.1 (.dK (putK (thK (mk ((ks.map (·.1)).take i) q).2 rA kA) (Sum.inr "held") (.bl true)))) b = some o := fun b o h1 h2 => by rw [upd_ne h1]; exact h2
              refine ⟨⟨fun b o hn hb => ?_, ?_⟩, ?_, ?_, ?_, _, _, _, _, rfl⟩
              · exact stay b o (fun z => hn (.inr (by rw [z]; exact List.mem_map.mpr ⟨q, qps, rfl⟩))) (gx.1 b o hn hb)
              · obtain ⟨x, y, e1, e2⟩ := gx.2
                exact ⟨x, y, by rw [upd_ne (Ne.symm qa)]; exact e1, e2⟩
              · exact stay _ _ (fun z => by rw [z, t1'] at hE9; cases hE9) hE9
              · exact stay _ _ (fun z => by rw [z, t1'] at hF9; cases hF9) hF9
              · intro r hr
                obtain ⟨r0, hr0, rfl⟩ := List.mem_map.mp hr
                have hr9 := th9 _ (List.mem_map.mpr ⟨r0, hr0, rfl⟩)
                obtain ⟨rB, kB, v1, v2, v3⟩ := hr9
                rw [mk_1] at v1 ⊢
                have rBq : rB ≠ q.1 := fun z => by
                  have := off_le _ _ v2
                  rw [z, t1'] at this
                  exact dk_thK (HO.dK.inj (Option.some.inj this)).symm
                have kBq : kB ≠ q.1 := fun z => by
                  have := off_le _ _ v3
                  rw [z, t1'] at this; cases this
                have off2 : ∀ b o, b ≠ q.1 → off a H9 b = some o → off a (upd H9 q.1 (.dK (putK (thK (mk ((ks.map (·.1)).take i) q).2 rA kA) (Sum.inr "held") (.bl true)))) b = some o := fun b o h1 h2 => by
                  have ba : b ≠ a := fun z => by rw [z, off_at] at h2; cases h2
                  rw [off_ne ba] at h2 ⊢
                  exact stay b o h1 h2
                have sn : (ks.map (·.1)).take (i + 1) = (ks.map (·.1)).take i ++ [q.1] := take_snoc (by rw [List.getElem?_map, hq]; rfl)
                by_cases e : r0.1 = q.1
                · have : r0 = q := map_inj ndp hr0 qps e
                  subst this
                  have em : (mk ((ks.map (·.1)).take (i + 1)) r0).2 = { (mk ((ks.map (·.1)).take i) r0).2 with hd := true } := by
                    unfold mk
                    rw [if_pos (by rw [sn]; simp)]
                    split <;> rfl
                  rw [em]
                  refine ⟨rA, kA, ?_, ?_, ?_⟩
                  · rw [off_ne qa, upd_same]; rfl
                  · exact off2 _ _ (fun z => by
                      have := off_le _ _ t2
                      rw [z, t1'] at this
                      exact dk_thK (HO.dK.inj (Option.some.inj this)).symm) t2
                  · exact off2 _ _ (fun z => by
                      have := off_le _ _ t3
                      rw [z, t1'] at this; cases this) t3
                · have em : (mk ((ks.map (·.1)).take (i + 1)) r0).2 = (mk ((ks.map (·.1)).take i) r0).2 := by
                    unfold mk
                    rw [sn]
                    by_cases z : r0.1 ∈ (ks.map (·.1)).take i
                    · rw [if_pos z, if_pos (List.mem_append_left _ z)]
                    · rw [if_neg z, if_neg (fun y => by
                        rcases List.mem_append.mp y with y | y
                        · exact z y
                        · exact e (List.mem_singleton.mp y))]
                  rw [em]
                  exact ⟨rB, kB, off2 _ _ e v1, off2 _ _ rBq v2, off2 _ _ kBq v3⟩
            · rintro σ H9 ⟨gx, hE9, hF9, th9, u5, u9, u10, u11, rfl⟩
              rw [show (ks.map (·.1)).take ks.length = ks.map (·.1) by rw [← List.length_map (f := (·.1)) (as := ks), List.take_length]] at th9
              have hE9a : off a H9 E = some (.lst (trefs ks)) := by rw [off_ne Ea]; exact hE9
              have hF9a : off a H9 F = some (.lst (sL (ss.filter (seesAll ks)))) := by rw [off_ne Fa]; exact hF9
              have la : l ≠ a := fun z => by rw [z, off_at] at hl; cases hl
              have hl9 : off a H9 l = some (.lst (sL ss)) := by
                rw [off_ne la]
                refine gx.1 l _ (fun z => ?_) (off_le _ _ hl)
                rcases z with z | z
                · exact la z
                · obtain ⟨q, hq, e⟩ := List.mem_map.mp z
                  exact inst l _ q H (off_le _ _ hl) (hth q hq) e.symm
              refine ⟨_, rfl, _, rfl, a, F, _, rfl, gx.2, hF9a, sL_ne hh, by rw [sL_len]; have := List.length_filter_le (seesAll ks) ss; omega, fun H10 v g11 hv => ?_⟩
              obtain ⟨home2, hm2, rfl⟩ := List.mem_map.mp hv
              obtain ⟨hm3, hall⟩ := List.mem_filter.mp hm2
              refine ⟨_, rfl, a, 2, rfl, g11.2, by decide, by decide, fun H11 d3 g12 hd3 => ⟨rfl, _, _, rfl, ?_⟩⟩
              have g13 := g11.trans g12
              dsimp only
              have hE13 := g13.1 _ _ hE9a
              refine thing_tail (kds := fun kd => kd.Perm (ks.map fun q => q.2.tg) ∧ sortedS kd = true) (sh := decide (V.int ((d3 : Nat) : Int) = V.int 0)) rfl rfl rfl rfl rfl (by show (5 : Nat) < 12; decide) g13.2 (g13.1 _ _ hl9) nd h5 hm3 (fun f G Qk g q => ?_) (fun f H' Qs q => ⟨_, rfl, q⟩) fun H3 q wy kd g' fr th rd hkd => ?_
              · have hEg := g.at hE13
                have thg := th9.mono ((g13.trans g).1)
                refine ⟨_, rfl, E, rfl, ⟨_, SqL.of hEg⟩, ?_⟩
                refine lcY ks (fun k v _ => v = .str k.2.tg) (by omega) (fun _ _ _ _ _ h => h) ?_ ?_ ?_ ?_
                · intro j H' hj e'; exact itl_go (SqL.of (e' _ _ hEg)) (by rw [trefs_len]; exact hj)
                · intro H' e'; exact itl_stop (SqL.of (e' _ _ hEg)) (trefs_len _)
                · intro j r C x' G3 G4 hr nC hC e' y' Ry' Rn' hy'
                  obtain ⟨rfl, hx2⟩ := y'
                  have hx3 := hx2 _ (SqL.of (off_le _ _ (e' _ _ hEg)))
                  rw [trefs, List.getElem?_map, hr] at hx3
                  cases hx3
                  obtain ⟨rA, kA, t1, t2, t3⟩ := thg _ (List.mem_map.mpr ⟨r, sub.subset (List.mem_of_getElem? hr), rfl⟩)
                  rw [mk_1] at t1
                  have t1' := off_le _ _ (e' _ _ (off_le _ _ t1))
                  exact ⟨rfl, _, rfl, r.1, .str (mk (ks.map (·.1)) r).2.tg, rfl, .inl ⟨_, (Sum.inr "tag" : Key), .inl t1', rfl, rfl⟩, hy' _ _ (Same.refl _) (by rw [mk_tg])⟩
                intro C G3 ts nC e2 hC hpt
                have et := paired_str (sf := fun k : Addr × Th => k.2.tg) hpt
                subst et
                refine ⟨C, _, rfl, SqL.of hC, by rw [List.length_map]; omega, fun ys p pm so np => ?_⟩
                exact q p ys _ ((e2.trans off_le).trans (same_upd np)) upd_same ((e2.trans off_le).free np) ⟨pm, so⟩
              · have g14 := g13.trans g'
                have gz : Gx a (ps.map (·.1)) H H3 := gx.trans (g14.x _)
                have qa : q ≠ a := fun z => by obtain ⟨_, _, z1, _⟩ := th; rw [z, off_at] at z1; cases z1
                have fresh9 : ∀ b, off a H9 b = none → b ≠ a → H b = none := fun b hb ba => by
                  have b9 : H9 b = none := off_none hb ba
                  have bps : b ∉ ps.map (·.1) := fun z => by
                    obtain ⟨r, hr, e⟩ := List.mem_map.mp z
                    obtain ⟨_, _, t1, _⟩ := th9 _ (List.mem_map.mpr ⟨r, hr, rfl⟩)
                    rw [mk_1] at t1
                    have := off_le _ _ t1
                    rw [e, b9] at this; cases this
                  cases hz : H b with
                  | none => rfl
                  | some o =>
                    have := gx.1 b o (fun z => z.elim ba bps) hz
                    rw [b9] at this; cases this
                have hq0 : H q = none := fresh9 q (g13.1.free fr) qa
                obtain ⟨rA, kA, z1, z2, z3, z4⟩ := th
                refine k H3 q _ (ps.map (mk (ks.map (·.1)))) gz hq0 (by rw [List.map_map]; exact List.map_congr_left fun q _ => mk_1 _ q) (by rw [List.map_map]; exact List.map_congr_left fun q _ => mk_bs _ q) (th9.mono g14.1) ⟨rA, kA, z1, z2, z3, fresh9 kA (g13.1.free z4) (fun z => by rw [z, off_at] at z3; cases z3)⟩ rfl ?_
                refine dl_new dl ndp h7 hc2 hb hbn hm3 rd sub (fun k hk => ⟨(hkk k hk).1, (hkk k hk).2, ?_⟩) hkd.1 hkd.2
                have := List.all_eq_true.mp hall k hk
                exact of_decide_eq_true this
        · rw [decide_eq_false d0]
          exact iteF (hN _ _ ⟨g3.trans g6, home, _, _, _, _, _, _, hm, rfl⟩)
end
end Cw

/-! CwOwnD -/
set_option Elab.async false
set_option linter.all false
set_option maxRecDepth 100000
/-! Own rules: text * int. -/
namespace Cw
open PySem PySem.Spec PyProof.Rows L2
section
variable {X : Cx}
theorem op_mulStr : OpR X (binaryOp .Mult) (fun x y H Q => ∃ (z : Str) (n : Int), x = .str z ∧ y = .int n ∧ MulOk z n ∧ Q (.str (Txt.mul z n)) H) := by
  intro pins s σ H x y v u Q I rx ry h
  obtain ⟨z, n, rfl, rfl, hok, q⟩ := h
  obtain ⟨t, rfl⟩ := rx
  obtain ⟨t', rfl⟩ := ry
  exact SB.mul hok (fun t' tk => ⟨.str (Txt.mul z n), H, I.tok _, ⟨_, rfl⟩, q⟩)
end
end Cw

/-! CwW0 -/
set_option Elab.async false
set_option linter.all false
set_option maxRecDepth 100000
set_option maxHeartbeats 4000000
namespace Cw
open PySem PySem.Spec PyProof.Rows L2
section
variable {P : Program} {w : World} {K : PySem.W.Frag} {mg : Str → Option Value} {base : Heap}
/-! for the deal -/
theorem off_comm {a D : Addr} {H : Hp} : off a (off D H) = off D (off a H) := by
  funext b
  by_cases h1 : b = a
  · by_cases h2 : b = D
    · rw [h1, off_at, ← h1, h2, off_at]
    · rw [h1, off_at, off_ne (h1 ▸ h2), off_at]
  · by_cases h2 : b = D
    · rw [off_ne h1, h2, off_at, off_at]
    · rw [off_ne h1, off_ne h2, off_ne h2, off_ne h1]
section
variable {α : Type} {J : It} {g : TG} {te : TE} {vs : List Nat} {σ : L2.St} {H : Hp} {Q : Addr → Hp → Prop}
/-- [e for target in J] where e draws -/
theorem lcQ (a : Addr) (hpot : PotAt H a) (ds : List α) (P : α → V → Prop) (hz : ds.length ≤ 100000)
    (go : ∀ i H', i < ds.length → J.go i H') (stop : ∀ H', J.stop ds.length H')
    (turn : ∀ (i : Nat) (d : α) (D : Addr) (x : V) (H1 H2 : Hp), ds[i]? = some d → PotAt H1 a → J.yld i H1 x H2 → ∀ (Ry : VK) (Rn : Hp → Prop),
      (∀ v H3, Go a H1 H3 → P d v → Ry v H3) → g x (wipe σ vs) H2 fun σ2 H3 => wipe σ2 vs = wipe σ vs ∧ tYes σ2 H3 fun b H4 => if b = true then te σ2 H4 Ry else Rn H4)
    (done : ∀ D H2 ys, H D = none → Go a H H2 → H2 D = some (.lst ys) → Paired P ds ys → Q D H2) :
    ∀ D, H D = none → ∃ W : Nat → Nat → Hp → Prop, (∃ m, W 0 m (upd H D (.lst []))) ∧ ∀ i m H, W i m H →
      (J.stop i H ∧ Q D H) ∨ (J.go i H ∧ ∃ Nx : Hp → Prop, (∀ H', Nx H' → ∃ m', m' < m ∧ W (i + 1) m' H') ∧ ∀ x H', J.yld i H x H' → g x (wipe σ vs) H' fun σ2 H2 => wipe σ2 vs = wipe σ vs ∧ tYes σ2 H2 fun b H3 =>
        if b = true then te σ2 H3 fun y H4 => ∃ acc, H4 D = some (.lst acc) ∧ acc.length < sizeLine ∧ Nx (upd H4 D (.lst (acc ++ [y]))) else Nx H3) := by
  intro D nD
  have Da : D ≠ a := hpot.new nD
  refine ⟨fun i m H' => m = ds.length - i ∧ i ≤ ds.length ∧ Go a H H' ∧ ∃ ys, H' D = some (.lst ys) ∧ Paired P (ds.take i) ys, ⟨ds.length, by simp, Nat.zero_le _, Go.of (same_upd nD) hpot, [], upd_same, by simpa using Paired.nil⟩, ?_⟩
  rintro i m H' ⟨rfl, hi, e, ys, hD, hp⟩
  by_cases hlt : i < ds.length
  · obtain ⟨d, hd⟩ : ∃ d, ds[i]? = some d := ⟨_, List.getElem?_eq_getElem hlt⟩
    have hly : ys.length ≤ 100000 := by
      have h1 := paired_len hp
      rw [List.length_take] at h1
      omega
    refine .inr ⟨go i H' hlt, fun H' => i + 1 ≤ ds.length ∧ Go a H H' ∧ ∃ ys, H' D = some (.lst ys) ∧ Paired P (ds.take (i + 1)) ys, fun H' ⟨a, b⟩ => ⟨_, by omega, rfl, a, b⟩, fun x H2 y => ?_⟩
    refine turn i d D x H' H2 hd e.2 y _ _ fun v H3 e3 hP => ?_
    have hD3 := e3.at (by rw [off_ne Da]; exact hD)
    refine ⟨ys, hD3, lt_line hly, hlt, ?_, ys ++ [v], upd_same, ?_⟩
    · have g3 := e.trans e3
      refine ⟨fun b o hb => ?_, ?_⟩
      · have bD : b ≠ D := fun z => by rw [z, off_ne Da, nD] at hb; cases hb
        have ba : b ≠ a := fun z => by rw [z, off_at] at hb; cases hb
        rw [off_ne ba, upd_ne bD]
        exact g3.at hb
      · obtain ⟨x, y, h1, h2⟩ := g3.2
        exact ⟨x, y, by rw [upd_ne (Ne.symm Da)]; exact h1, h2⟩
    · rw [take_snoc hd]
      exact paired_snoc hp hP
  · have ei : i = ds.length := by omega
    subst ei
    rw [List.take_length] at hp
    exact .inl ⟨stop H', done D H' ys nD e hD hp⟩
end
theorem bits_app {x y : Str} (hx : isBits x) (hy : isBits y) : isBits (x ++ y) := fun c hc => by
  have : (x ++ y).cps.toList = x.cps.toList ++ y.cps.toList := Array.toList_append
  rw [this] at hc
  rcases List.mem_append.mp hc with h | h
  · exact hx c h
  · exact hy c h
theorem len_app (x y : Str) : (x ++ y).length = x.length + y.length := by
  show (x.cps ++ y.cps).size = x.cps.size + y.cps.size
  exact Array.size_append
theorem join_bits : ∀ {ys : List Str}, (∀ y ∈ ys, isBits y ∧ y.length = 1) → isBits (Txt.join "" ys) ∧ (Txt.join "" ys).length = ys.length := by
  intro ys h
  rw [TL.join_eq]
  induction ys with
  | nil => exact ⟨by intro c hc; have : c ∈ (Str.empty).cps.toList := hc; simp [Str.empty] at this, rfl⟩
  | cons x r ih =>
    have hx := h x (by simp)
    have ir := ih fun y hy => h y (List.mem_cons_of_mem _ hy)
    cases r with
    | nil => exact ⟨hx.1, hx.2⟩
    | cons y r =>
      show isBits (x ++ "" ++ Str.join "" (y :: r)) ∧ (x ++ "" ++ Str.join "" (y :: r)).length = _
      refine ⟨bits_app (bits_app hx.1 (empty_ok 0).1) ir.1, ?_⟩
      rw [len_app, len_app, ir.2, hx.2]
      show 1 + 0 + (y :: r).length = (x :: y :: r).length
      simp only [List.length_cons]; omega
def far_base (f : Nat) : Str := cutS (Txt.mul "011010" 17) none (some (f : Int))
theorem far_ok {f : Nat} (h : f = 0 ∨ f = 1 ∨ f = 37 ∨ f = 95) : isBits (far_base f) ∧ (far_base f).length = f := by
  have b : ∀ f : Nat, ((far_base f).cps.toList.all (fun c => c == 48 || c == 49) && (far_base f).length == f) = true → isBits (far_base f) ∧ (far_base f).length = f := fun f h => by
    rw [Bool.and_eq_true, List.all_eq_true, beq_iff_eq] at h
    exact ⟨fun c hc => by simpa using h.1 c hc, h.2⟩
  rcases h with rfl | rfl | rfl | rfl <;> exact b _ (by decide +kernel)
def wK (wh : Str) : List (Key × V) := [(Sum.inr "whole", .str wh)]
def thW (t : Th) (rA kA : Addr) (wh : Str) : List (Key × V) := thK t rA kA ++ wK wh
def ThW (H : Hp) (p : Addr) (t : Th) (wh : Str) : Prop := ∃ rA kA, H p = some (.dK (thW t rA kA wh)) ∧ H rA = some (.dK (dk t.wy)) ∧ H kA = some (.lst (sL t.kd))
theorem ThW.mono {H H' : Hp} {p : Addr} {t : Th} {wh : Str} (h : ThW H p t wh) (e : Same H H') : ThW H' p t wh := by
  obtain ⟨rA, kA, h1, h2, h3⟩ := h
  exact ⟨rA, kA, e _ _ h1, e _ _ h2, e _ _ h3⟩
theorem dk_thW {wy : List (Str × Str)} {t : Th} {rA kA : Addr} {wh : Str} : dk wy ≠ thW t rA kA wh := fun e => by
  have h := congrArg (fun l => l[3]?) e
  simp only [dk, thW, thK, wK, List.getElem?_map] at h
  cases hw : wy[3]? with
  | none => rw [hw] at h; simp at h
  | some p => rw [hw] at h; simp at h
def spotsL : List (List Str) := [["k"], ["m", "k"], ["a", "k", "h"], ["k", "h", "m", "b"], ["m", "k", "h", "b", "a"]]
theorem spots_ok {ss : List Str} (h : ss ∈ spotsL) : ss.Nodup ∧ ss ≠ [] ∧ ss.length ≤ 5 ∧ ∀ x ∈ ss, NameOk x := by
  have hb : ∀ ss ∈ spotsL, ss.Nodup ∧ ss ≠ [] ∧ ss.length ≤ 5 ∧ ∀ x ∈ ss, x.cps.size = 1 ∧ 97 ≤ x.cps[0]! ∧ x.cps[0]! ≤ 122 := by decide +kernel
  obtain ⟨h1, h2, h3, h4⟩ := hb ss h
  refine ⟨h1, h2, h3, fun x hx => ?_⟩
  obtain ⟨z1, z2, z3⟩ := h4 x hx
  obtain ⟨c⟩ := x
  refine ⟨c[0]!, ?_, z2, z3⟩
  congr 1
  apply Array.ext
  · exact z1
  · intro i h1 h2
    have : i = 0 := by change i < 1 at h2; omega
    subst this
    simp only [List.getElem_toArray, List.getElem_cons_zero]
    exact (getElem!_pos c 0 h1).symm
end
end Cw

/-! CwW -/
set_option Elab.async false
set_option linter.all false
set_option maxRecDepth 100000
set_option maxHeartbeats 4000000
namespace Cw
open PySem PySem.Spec PyProof.Rows L2
section
variable {P : Program} {w : World} {K : PySem.W.Frag} {mg : Str → Option Value} {base : Heap}
/-! the deal -/
structure DealOk (wide : Nat) (base : Str) (turn : Nat) (ts : List Th) : Prop where
  ss : ∃ ss : List Str, ss.Nodup ∧ ss.length ≤ 5 ∧ (∀ x ∈ ss, NameOk x) ∧ Dl ss ts
  ne : ts ≠ []
  len : ts.length ≤ 6
  turn : turn < ts.length
  bb : isBits base ∧ base.length ≤ 95
  w1 : 1 ≤ wide
  w2 : wide ≤ base.length + 5
  few : ∀ t ∈ ts, t.bs.length ≤ 4 ∧ base.length + t.bs.length ≤ wide
def dealK (tA : Addr) (wide : Nat) (base : Str) (turn : Nat) : List (Key × V) := [(Sum.inr "things", .ref tA), (Sum.inr "wide", .int wide), (Sum.inr "base", .str base), (Sum.inr "turn", .int turn)]
def DealAt (H : Hp) (q : Addr) (wide : Nat) (base : Str) (turn : Nat) (ps : List (Addr × Th)) : Prop := ∃ tA, H q = some (.dK (dealK tA wide base turn)) ∧ H tA = some (.lst (trefs ps)) ∧ ∀ r ∈ ps, ThW H r.1 r.2 (base ++ r.2.bs)
theorem DealAt.mono {H H' : Hp} {q : Addr} {wide : Nat} {base : Str} {turn : Nat} {ps : List (Addr × Th)} (h : DealAt H q wide base turn ps) (e : Same H H') : DealAt H' q wide base turn ps := by
  obtain ⟨tA, h1, h2, h3⟩ := h
  exact ⟨tA, e _ _ h1, e _ _ h2, fun r hr => (h3 r hr).mono e⟩
theorem strs_of {α : Type} {ds : List α} {ys : List V} (h : Paired (fun (_ : α) v => ∃ c : Nat, v = V.str ⟨#[c]⟩ ∧ (c = 48 ∨ c = 49)) ds ys) : ∃ zs : List Str, ys = sL zs ∧ zs.length = ds.length ∧ ∀ z ∈ zs, isBits z ∧ z.length = 1 := by
  induction h with
  | nil => exact ⟨[], rfl, rfl, by simp⟩
  | @cons d v ds ys hv _ ih =>
    obtain ⟨c, rfl, hc⟩ := hv
    obtain ⟨zs, rfl, h1, h2⟩ := ih
    refine ⟨⟨#[c]⟩ :: zs, rfl, by simp [h1], fun z hz => ?_⟩
    rcases List.mem_cons.mp hz with e | e
    · rw [e]
      exact ⟨fun x hx => by
        have : x = c := by simpa using hx
        rw [this]; exact hc, rfl⟩
    · exact h2 z e
theorem sum_ones : ∀ {zs : List Str}, (∀ z ∈ zs, isBits z ∧ z.length = 1) → (zs.map (·.length)).sum = zs.length
  | [], _ => rfl
  | z :: r, h => by
    rw [List.map_cons, List.sum_cons, sum_ones fun y hy => h y (List.mem_cons_of_mem _ hy), (h z (by simp)).2, List.length_cons]
    omega
def DS (H : Hp) (a q3 : Addr) (ss : List Str) (R : Str → Prop) (H' : Hp) : Prop := ∃ ps : List (Addr × Th), off a H' q3 = some (.lst (trefs ps)) ∧ Ths (off q3 (off a H')) ps ∧ (ps.map (·.1)).Nodup ∧ Dl ss (ps.map (·.2)) ∧ (∀ q ∈ ps, off a H q.1 = none) ∧ ∀ x, x ∈ ps.map (fun q => q.2.bs) ↔ R x
theorem DS.congr {H : Hp} {a q3 : Addr} {ss : List Str} {R R' : Str → Prop} {H' : Hp} (h : DS H a q3 ss R H') (e : ∀ x, R x ↔ R' x) : DS H a q3 ss R' H' := by
  obtain ⟨ps, h1, h2, h3, h4, h5, h6⟩ := h
  exact ⟨ps, h1, h2, h3, h4, h5, fun x => (h6 x).trans (e x)⟩
theorem DS.len {ss : List Str} {ps : List (Addr × Th)} {bb : List Str} (d : Dl ss (ps.map (·.2))) (h : ∀ x, x ∈ ps.map (fun q => q.2.bs) → x ∈ bb) : ps.length ≤ bb.length := by
  have nd : (ps.map (fun q => q.2.bs)).Nodup := by have := d.bs; rwa [List.map_map] at this
  have := nodup_le nd h
  rwa [List.length_map] at this
theorem refs_sL {ps : List (Addr × Th)} {kd : List Str} (h : ps ≠ []) : trefs ps ≠ sL kd := fun e => by
  cases ps with
  | nil => exact h rfl
  | cons p r =>
    cases kd with
    | nil => cases e
    | cons x y =>
      have := (List.cons.inj e).1
      cases this
/-- one thing more -/
theorem ds_more {H H6 H7 : Hp} {a q3 q : Addr} {ps ps' : List (Addr × Th)} {t : Th} (g : Go a H H6) (f3 : off a H q3 = none) (q3a : q3 ≠ a) (h3 : off a H6 q3 = some (.lst (trefs ps))) (hth : Ths (off q3 (off a H6)) ps) (ndp : (ps.map (·.1)).Nodup)
    (fr : ∀ q ∈ ps, off a H q.1 = none) (gx : Gx a (ps.map (·.1)) H6 H7) (nq : H6 q = none) (e1 : ps'.map (·.1) = ps.map (·.1)) (th' : Ths (off a H7) ps') (tn : ThNew H6 (off a H7) q t) :
    Go a H (upd H7 q3 (.lst (trefs (ps' ++ [(q, t)])))) ∧ (∀ b xs, b ≠ q3 → off a H6 b = some (.lst xs) → off a (upd H7 q3 (.lst (trefs (ps' ++ [(q, t)])))) b = some (.lst xs)) ∧
      Ths (off q3 (off a (upd H7 q3 (.lst (trefs (ps' ++ [(q, t)])))))) (ps' ++ [(q, t)]) ∧ ((ps' ++ [(q, t)]).map (·.1)).Nodup ∧ (∀ r ∈ ps' ++ [(q, t)], off a H r.1 = none) ∧ H7 q3 = some (.lst (trefs ps)) := by
  have inP : ∀ b, b ∈ ps.map (·.1) → ∃ r rA kA, r ∈ ps ∧ r.1 = b ∧ H6 b = some (.dK (thK r.2 rA kA)) := fun b hb => by
    obtain ⟨r, hr, rfl⟩ := List.mem_map.mp hb
    obtain ⟨rA, kA, t1, _⟩ := hth r hr
    exact ⟨r, rA, kA, hr, rfl, off_le _ _ (off_le _ _ t1)⟩
  have lstP : ∀ b xs, off a H6 b = some (.lst xs) → b ∉ ps.map (·.1) := fun b xs hb z => by
    obtain ⟨r, rA, kA, _, _, h⟩ := inP b z
    rw [off_le _ _ hb] at h; cases h
  have lst7 : ∀ b xs, off a H6 b = some (.lst xs) → H7 b = some (.lst xs) := fun b xs hb => by
    have ba : b ≠ a := fun z => by rw [z, off_at] at hb; cases hb
    exact gx.1 b _ (fun z => z.elim ba (lstP b xs hb)) (off_le _ _ hb)
  have h37 := lst7 _ _ h3
  have offK : ∀ b o, b ≠ q3 → off a H7 b = some o → off q3 (off a (upd H7 q3 (.lst (trefs (ps' ++ [(q, t)]))))) b = some o := fun b o h1 h2 => by
    have ba : b ≠ a := fun z => by rw [z, off_at] at h2; cases h2
    rw [off_ne ba] at h2
    rw [off_ne h1, off_ne ba, upd_ne h1]; exact h2
  have dkq : ∀ b kvs, off a H7 b = some (.dK kvs) → b ≠ q3 := fun b kvs hb z => by
    have := off_le _ _ hb
    rw [z, h37] at this; cases this
  refine ⟨⟨fun b o hb => ?_, ?_⟩, fun b xs h1 h2 => ?_, ?_, ?_, ?_, h37⟩
  · have ba : b ≠ a := fun z => by rw [z, off_at] at hb; cases hb
    have b3 : b ≠ q3 := fun z => by rw [z, f3] at hb; cases hb
    have bp : b ∉ ps.map (·.1) := fun z => by
      obtain ⟨r, _, _, hr, e, _⟩ := inP b z
      rw [← e, fr r hr] at hb; cases hb
    rw [off_ne ba, upd_ne b3]
    exact gx.1 b o (fun z => z.elim ba bp) (g.at hb)
  · obtain ⟨x, y, z1, z2⟩ := gx.2
    exact ⟨x, y, by rw [upd_ne (Ne.symm q3a)]; exact z1, z2⟩
  · have ba : b ≠ a := fun z => by rw [z, off_at] at h2; cases h2
    rw [off_ne ba, upd_ne h1]
    exact lst7 b xs h2
  · intro r hr
    rcases List.mem_append.mp hr with hr | hr
    · obtain ⟨rA, kA, t1, t2, t3⟩ := th' r hr
      refine ⟨rA, kA, offK _ _ (dkq _ _ t1) t1, offK _ _ (dkq _ _ t2) t2, offK _ _ (fun z => ?_) t3⟩
      have h := off_le _ _ t3
      rw [z, h37] at h
      have pne : ps ≠ [] := fun z => by
        rw [z] at e1
        have : ps' = [] := List.map_eq_nil_iff.mp e1
        rw [this] at hr; simp at hr
      exact refs_sL pne (HO.lst.inj (Option.some.inj h))
    · rw [List.mem_singleton.mp hr]
      obtain ⟨rA, kA, t1, t2, t3, t4⟩ := tn
      exact ⟨rA, kA, offK _ _ (dkq _ _ t1) t1, offK _ _ (dkq _ _ t2) t2, offK _ _ (fun z => by rw [z, off_le _ _ h3] at t4; cases t4) t3⟩
  · rw [List.map_append, e1, List.map_cons, List.map_nil, List.nodup_append]
    refine ⟨ndp, by simp, fun u hu v hv z => ?_⟩
    rw [List.mem_singleton.mp hv] at z
    obtain ⟨r, rA, kA, _, _, h⟩ := inP u hu
    rw [z, nq] at h; cases h
  · intro r hr
    rcases List.mem_append.mp hr with hr | hr
    · have : r.1 ∈ ps.map (·.1) := by rw [← e1]; exact List.mem_map.mpr ⟨r, hr, rfl⟩
      obtain ⟨r2, hr2, e⟩ := List.mem_map.mp this
      rw [← e]; exact fr r2 hr2
    · rw [List.mem_singleton.mp hr]; exact g.free nq
def sp_law_deal : Sp := fun vs H Q _ => ∃ a : Addr, vs = [.ref a] ∧ PotAt H a ∧ ∀ H' q wide base turn ps, Go a H H' → off a H q = none → DealAt (off a H') q wide base turn ps → DealOk wide base turn (ps.map (·.2)) → Q (.ref q) H'
/-! _law_deal: *0:_law_pot_here 1:_law_spots_here 2:_law_turn 3:_law_size 4:_law_base 5:_law_thing_here 6:_law_deep 7:_law_some 8:_law_things 9:_law_bits 10:_law_far 11:_law_more 12:_law_place -/
abbrev n_law_deal : List Str := ["_law_pot_here", "_law_spots_here", "_law_turn", "_law_size", "_law_base", "_law_thing_here", "_law_deep", "_law_some", "_law_things", "_law_bits", "_law_far", "_law_more", "_law_place"]
theorem sc_law_deal : FnScope n_law_deal ["_law_pot_here"] (defScope s_law_deal) := ⟨rfl, rfl, rfl, by decide +kernel, rfl, by decide +kernel, by decide +kernel⟩
theorem c_law_deal (T : Txt K mg) : Cal P w K mg base 5 (He.ga K "_law_deal") ["_law_pot_here"] sp_law_deal := by
  refine T.d_law_deal.cal sc_law_deal (fun _ _ _ _ _ _ us hl => match us, hl with | [_], _ => rfl) (fun vs H Q E h => ?_) (fun cdv A outer s H vs Q E hr h => ?_)
  · obtain ⟨_, rfl, _⟩ := h; rfl
  · obtain ⟨a, rfl, hp, k⟩ := h
    have hu := hu_of hr
    refine ⟨_, (pss_cons (ps_set (i := 1) sc_law_deal.nd rfl (Or.inl rfl) (pe_cal (c_law_among T) (hr.mono (by decide)) (by rfl) T.g_law_among (pa_cons (pv 0) (pa_cons (pe_lst (pa_cons (pe_lst (pa_cons pe_str pa_nil)) (pa_cons (pe_lst (pa_cons pe_str (pa_cons pe_str pa_nil))) (pa_cons (pe_lst (pa_cons pe_str (pa_cons pe_str (pa_cons pe_str pa_nil)))) (pa_cons (pe_lst (pa_cons pe_str (pa_cons pe_str (pa_cons pe_str (pa_cons pe_str pa_nil))))) (pa_cons (pe_lst (pa_cons pe_str (pa_cons pe_str (pa_cons pe_str (pa_cons pe_str (pa_cons pe_str pa_nil)))))) pa_nil)))))) pa_nil))))
      (pss_cons (ps_par3 (i := 6) (j := 7) (l := 8) rfl sc_law_deal.nd rfl rfl rfl (by decide) (by decide) (by decide) rfl rfl rfl (pa_cons (pe_cal (c_law_among T) (hr.mono (by decide)) (by rfl) T.g_law_among (pa_cons (pv 0) (pa_cons (pe_lst (pa_cons pe_int (pa_cons pe_int (pa_cons pe_int (pa_cons pe_int (pa_cons pe_int pa_nil)))))) pa_nil))) (pa_cons (pe_lst pa_nil) (pa_cons (pe_lst pa_nil) pa_nil))) (by rfl))
      (pss_cons (ps_for PassesOwn.never rfl (pi_range1 (by rfl) T.b_range (pa_cons (pe_op op_add pe_int (pe_cal (c_law_draw T) (hr.mono (by decide)) (by rfl) T.g_law_draw (pa_cons (pv 0) (pa_cons pe_int pa_nil)))) pa_nil)) (pg_name (i := 2) sc_law_deal.nd rfl (Or.inl rfl))
        (pss_cons (ps_set (i := 9) sc_law_deal.nd rfl (Or.inl rfl) (kpe_join K pe_str (pe_lc (own := [("_law_place", 12)]) (g := gName 12) (tt := tYes) rfl sc_law_deal.nd (pi_range1 (by rfl) T.b_range (pa_cons (pe_cal (c_law_draw T) (hr.mono (by decide)) (by rfl) T.g_law_draw (pa_cons (pv 0) (pa_cons (pe_op op_add (pv 6) pe_int) pa_nil))) pa_nil)) (blkOk_by (N := n_law_deal) (sc := defScope s_law_deal) (by decide +kernel)) (fun _ _ _ _ _ => (pg_name (i := 12) sc_law_deal.nd rfl (Or.inl rfl))) (fun _ _ _ _ _ => pts_nil) (fun _ _ _ _ _ => (pe_ix ix_str pe_str (pe_cal (c_law_draw T) (hr.mono (by decide)) (by rfl) T.g_law_draw (pa_cons (pv 0) (pa_cons pe_int pa_nil))) (fun _ _ => rfl))))))
        (pss_one (ps_if (pt_cmpR (kop_notIn_seq K) (pv 9) (pv 7) (by rfl))
          (pss_one (ps_expr (kpe_bm K PySem.F.plainAttrs_list PySem.F.slot_list_append PySem.F.type_list_append mt_append (pv 7) (pa_cons (pv 9) pa_nil)))) pss_nil))))
      (pss_cons (ps_for PassesOwn.never rfl (pi_range3 (by rfl) T.b_range (pa_cons (pv 6) (pa_cons (pe_un un_neg pe_int) (pa_cons (pe_un un_neg pe_int) pa_nil)))) (pg_name (i := 3) sc_law_deal.nd rfl (Or.inl rfl))
        (pss_one (ps_for PassesOwn.never rfl (kpi_list K (pv 7)) (pg_name (i := 9) sc_law_deal.nd rfl (Or.inl rfl))
          (pss_one (ps_if (pt_cmpR op_eq (pe_callB call_len_str (by rfl) T.b_len bt_len (pa_cons (pv 9) pa_nil)) (pv 3) (nomark _))
            (pss_one (ps_expr (kpe_bm K PySem.F.plainAttrs_list PySem.F.slot_list_append PySem.F.type_list_append mt_append (pv 8) (pa_cons (pe_cal (c_law_thing T) (hr.mono (by decide)) (by rfl) T.g_law_thing (pa_cons (pv 0) (pa_cons (pv 1) (pa_cons (pv 9) (pa_cons (pv 8) pa_nil))))) pa_nil)))) pss_nil)))))
      (pss_cons (ps_par (i := 10) (j := 11) rfl sc_law_deal.nd rfl rfl (by decide) rfl rfl (pa_cons (pe_cal (c_law_among T) (hr.mono (by decide)) (by rfl) T.g_law_among (pa_cons (pv 0) (pa_cons (pe_lst (pa_cons pe_int (pa_cons pe_int (pa_cons pe_int (pa_cons pe_int (pa_cons pe_int (pa_cons pe_int pa_nil))))))) pa_nil))) (pa_cons (pe_cal (c_law_draw T) (hr.mono (by decide)) (by rfl) T.g_law_draw (pa_cons (pv 0) (pa_cons pe_int pa_nil))) pa_nil)) (by rfl))
      (pss_cons (ps_set (i := 4) sc_law_deal.nd rfl (Or.inl rfl) (pe_slice sl_str (pe_op op_mulStr pe_str pe_int) po_none (po_some (pv 10))))
      (pss_cons (ps_for PassesOwn.never rfl (kpi_list K (pv 8)) (pg_name (i := 5) sc_law_deal.nd rfl (Or.inl rfl))
        (pss_one (ps_dput hu (pv 5) pe_str (pe_op op_add_str (pv 4) (pe_dget hu (pv 5) pe_str (fun _ _ => rfl))) rfl)))
      (pss_one (ps_ret (pe_disp (pps_cons pe_str (pv 8) (pps_cons pe_str (pe_op op_add (pe_op op_add (pv 10) (pv 6)) (pv 11)) (pps_cons pe_str (pv 4) (pps_cons pe_str (pe_cal (c_law_draw T) (hr.mono (by decide)) (by rfl) T.g_law_draw (pa_cons (pv 0) (pa_cons (pe_callB (kcall_len_seq K) (by rfl) T.b_len bt_len (pa_cons (pv 8) pa_nil)) pa_nil))) pps_nil)))) (by rfl) (by rfl) (fun z => by cases z) (by decide))))))))))), ?_⟩
    refine ⟨_, rfl, le_line (by show (1 : Nat) ≤ 100000; decide), fun p1 n1 => ⟨le_line (by show (2 : Nat) ≤ 100000; decide), fun p2 n2 => ⟨le_line (by show (3 : Nat) ≤ 100000; decide), fun p3 n3 => ⟨le_line (by show (4 : Nat) ≤ 100000; decide), fun p4 n4 => ⟨le_line (by show (5 : Nat) ≤ 100000; decide), fun p5 n5 => ⟨le_line (by show (5 : Nat) ≤ 100000; decide), fun p6 n6 => ?_⟩⟩⟩⟩⟩⟩
    have g1 : Go a H _ := Go.of (same_upd (o := .lst [V.str "k"]) n1) hp
    have b1 : off a (upd H p1 (.lst [V.str "k"])) p1 = some (.lst [V.str "k"]) := by rw [off_ne (hp.new n1)]; exact upd_same
    generalize upd H p1 (.lst [V.str "k"]) = G1 at g1 b1 n2 n3 n4 n5 n6 ⊢
    have g2 : Go a H _ := g1.step (same_upd (o := .lst [V.str "m", V.str "k"]) n2)
    have b2 : off a (upd G1 p2 (.lst [V.str "m", V.str "k"])) p2 = some (.lst [V.str "m", V.str "k"]) := by rw [off_ne (g1.new n2)]; exact upd_same
    have b1 := off_mono (D := a) (same_upd (o := .lst [V.str "m", V.str "k"]) n2) _ _ b1
    generalize upd G1 p2 (.lst [V.str "m", V.str "k"]) = G2 at g2 b1 b2 n3 n4 n5 n6 ⊢
    have g3 : Go a H _ := g2.step (same_upd (o := .lst [V.str "a", V.str "k", V.str "h"]) n3)
    have b3 : off a (upd G2 p3 (.lst [V.str "a", V.str "k", V.str "h"])) p3 = some (.lst [V.str "a", V.str "k", V.str "h"]) := by rw [off_ne (g2.new n3)]; exact upd_same
    have b1 := off_mono (D := a) (same_upd (o := .lst [V.str "a", V.str "k", V.str "h"]) n3) _ _ b1
    have b2 := off_mono (D := a) (same_upd (o := .lst [V.str "a", V.str "k", V.str "h"]) n3) _ _ b2
    generalize upd G2 p3 (.lst [V.str "a", V.str "k", V.str "h"]) = G3 at g3 b1 b2 b3 n4 n5 n6 ⊢
    have g4 : Go a H _ := g3.step (same_upd (o := .lst [V.str "k", V.str "h", V.str "m", V.str "b"]) n4)
    have b4 : off a (upd G3 p4 (.lst [V.str "k", V.str "h", V.str "m", V.str "b"])) p4 = some (.lst [V.str "k", V.str "h", V.str "m", V.str "b"]) := by rw [off_ne (g3.new n4)]; exact upd_same
    have b1 := off_mono (D := a) (same_upd (o := .lst [V.str "k", V.str "h", V.str "m", V.str "b"]) n4) _ _ b1
    have b2 := off_mono (D := a) (same_upd (o := .lst [V.str "k", V.str "h", V.str "m", V.str "b"]) n4) _ _ b2
    have b3 := off_mono (D := a) (same_upd (o := .lst [V.str "k", V.str "h", V.str "m", V.str "b"]) n4) _ _ b3
    generalize upd G3 p4 (.lst [V.str "k", V.str "h", V.str "m", V.str "b"]) = G4 at g4 b1 b2 b3 b4 n5 n6 ⊢
    have g5 : Go a H _ := g4.step (same_upd (o := .lst [V.str "m", V.str "k", V.str "h", V.str "b", V.str "a"]) n5)
    have b5 : off a (upd G4 p5 (.lst [V.str "m", V.str "k", V.str "h", V.str "b", V.str "a"])) p5 = some (.lst [V.str "m", V.str "k", V.str "h", V.str "b", V.str "a"]) := by rw [off_ne (g4.new n5)]; exact upd_same
    have b1 := off_mono (D := a) (same_upd (o := .lst [V.str "m", V.str "k", V.str "h", V.str "b", V.str "a"]) n5) _ _ b1
    have b2 := off_mono (D := a) (same_upd (o := .lst [V.str "m", V.str "k", V.str "h", V.str "b", V.str "a"]) n5) _ _ b2
    have b3 := off_mono (D := a) (same_upd (o := .lst [V.str "m", V.str "k", V.str "h", V.str "b", V.str "a"]) n5) _ _ b3
    have b4 := off_mono (D := a) (same_upd (o := .lst [V.str "m", V.str "k", V.str "h", V.str "b", V.str "a"]) n5) _ _ b4
    generalize upd G4 p5 (.lst [V.str "m", V.str "k", V.str "h", V.str "b", V.str "a"]) = G5 at g5 b1 b2 b3 b4 b5 n6 ⊢
    have g6 : Go a H _ := g5.step (same_upd (o := .lst [V.ref p1, .ref p2, .ref p3, .ref p4, .ref p5]) n6)
    have p6a := g5.new n6
    have b6 : off a (upd G5 p6 (.lst [V.ref p1, .ref p2, .ref p3, .ref p4, .ref p5])) p6 = some (.lst [V.ref p1, .ref p2, .ref p3, .ref p4, .ref p5]) := by rw [off_ne p6a]; exact upd_same
    have e6 : Same (off a G5) (off a (upd G5 p6 (.lst [V.ref p1, .ref p2, .ref p3, .ref p4, .ref p5]))) := off_mono (same_upd n6)
    refine ⟨a, p6, _, rfl, g6.2, b6, (fun z => nomatch z), by show (5 : Nat) ≤ 1000; decide, fun H1 v g7 hv => ?_⟩
    obtain ⟨l, ss, rfl, hl, hss⟩ : ∃ l ss, v = .ref l ∧ off a H1 l = some (.lst (sL ss)) ∧ ss ∈ spotsL := by
      have up : ∀ p o, off a G5 p = some o → off a H1 p = some o := fun p o h => g7.1 _ _ (e6 _ _ h)
      simp only [List.mem_cons, List.not_mem_nil, or_false] at hv
      rcases hv with rfl | rfl | rfl | rfl | rfl
      · exact ⟨_, [("k" : Str)], rfl, up _ _ b1, by simp [spotsL]⟩
      · exact ⟨_, [("m" : Str), ("k" : Str)], rfl, up _ _ b2, by simp [spotsL]⟩
      · exact ⟨_, [("a" : Str), ("k" : Str), ("h" : Str)], rfl, up _ _ b3, by simp [spotsL]⟩
      · exact ⟨_, [("k" : Str), ("h" : Str), ("m" : Str), ("b" : Str)], rfl, up _ _ b4, by simp [spotsL]⟩
      · exact ⟨_, [("m" : Str), ("k" : Str), ("h" : Str), ("b" : Str), ("a" : Str)], rfl, up _ _ b5, by simp [spotsL]⟩
    have g8 := g6.trans g7
    clear b1 b2 b3 b4 b5 b6 e6 g1 g2 g3 g4 g5 g6 g7 hv n1 n2 n3 n4 n5 n6
    obtain ⟨ss1, ss2, ss3, ss4⟩ := spots_ok hss
    refine ⟨_, rfl, le_line (by show (5 : Nat) ≤ 100000; decide), fun q1 m1 => ⟨a, q1, [.int 1, .int 2, .int 3, .int 3, .int 4], rfl, g8.2.mono (same_upd m1), by rw [off_ne (g8.new m1)]; exact upd_same, (fun z => nomatch z), by show (5 : Nat) ≤ 1000; decide, fun H2 v g9 hv => ⟨le_line (by show (0 : Nat) ≤ 100000; decide), fun q2 m2 => ⟨le_line (by show (0 : Nat) ≤ 100000; decide), fun q3 m3 => ⟨_, _, _, rfl, ?_⟩⟩⟩⟩⟩
    obtain ⟨deep, rfl, d1, d4⟩ : ∃ deep : Nat, v = .int deep ∧ 1 ≤ deep ∧ deep ≤ 4 := by
      simp only [List.mem_cons, List.not_mem_nil, or_false] at hv
      rcases hv with rfl | rfl | rfl | rfl | rfl
      · exact ⟨1, rfl, by omega, by omega⟩
      · exact ⟨2, rfl, by omega, by omega⟩
      · exact ⟨3, rfl, by omega, by omega⟩
      · exact ⟨3, rfl, by omega, by omega⟩
      · exact ⟨4, rfl, by omega, by omega⟩
    have g10 := (g8.step (same_upd m1)).trans g9
    have hl2 := g9.1 _ _ (off_mono (same_upd m1) _ _ hl)
    have q2a := g10.new m2
    have g11 := g10.step (same_upd (o := .lst []) m2)
    have q3a := g11.new m3
    have g12 := g11.step (same_upd (o := .lst []) m3)
    have c2 : off a (upd (upd H2 q2 (.lst [])) q3 (.lst [])) q2 = some (.lst (sL [])) := by rw [off_ne q2a]; exact same_upd m3 _ _ upd_same
    have c3 : off a (upd (upd H2 q2 (.lst [])) q3 (.lst [])) q3 = some (.lst []) := by rw [off_ne q3a]; exact upd_same
    have hl3 := off_mono (D := a) ((same_upd (o := .lst []) m2).trans (same_upd (o := .lst []) m3)) _ _ hl2
    have q2l : q2 ≠ l := fun z => by rw [← z] at hl2; have := off_le _ _ hl2; rw [m2] at this; cases this
    have q3l : q3 ≠ l := fun z => by rw [← z] at hl2; have := (same_upd (o := .lst []) m2) _ _ (off_le _ _ hl2); rw [m3] at this; cases this
    have q23 : q2 ≠ q3 := fun z => by rw [← z, upd_same] at m3; cases m3
    have f2 : off a H q2 = none := g10.free m2
    have f3 : off a H q3 = none := g11.free m3
    generalize upd (upd H2 q2 (.lst [])) q3 (.lst []) = H3 at g12 c2 c3 hl3 ⊢
    clear hl hl2 g8 g9 g10 g11 m1 m2 m3 hv
    refine ⟨_, rfl, a, 5, rfl, g12.2, by decide, by decide, fun H4 d g13 hd => ⟨_, _, rfl, rfl, _, rfl, by omega, by omega, ?_⟩⟩
    refine forG (2 + (d : Int)).toNat (fun i σ H' => Go a H H' ∧ off a H' l = some (.lst (sL ss)) ∧ off a H' q3 = some (.lst []) ∧ (∃ bb : List Str, off a H' q2 = some (.lst (sL bb)) ∧ bb.Nodup ∧ (∀ b ∈ bb, isBits b ∧ b.length ≤ deep) ∧ bb.length ≤ i ∧ (0 < i → bb ≠ [])) ∧
      ∃ u2 u3 u4 u5 u9 u10 u11 u12, σ = [some (.ref a), some (.ref l), u2, u3, u4, u5, some (.int (deep : Nat)), some (.ref q2), some (.ref q3), u9, u10, u11, u12]) ⟨g12.trans g13, g13.1 _ _ hl3, g13.1 _ _ c3, ⟨[], g13.1 _ _ c2, by simp, by simp, by simp, by simp⟩, _, _, _, _, _, _, _, _, rfl⟩ ?_ ?_ ?_ ?_
    · rintro i σ H' hi _; exact hi
    · rintro σ H' _; exact Nat.le_refl _
    · rintro i x σ H5 _ hi ⟨g5, hl5, h3, ⟨bb, h2, nd, hb, hle, hne⟩, u2, u3, u4, u5, u9, u10, u11, u12, rfl⟩ ⟨rfl, rfl⟩
      rename Hp => H5
      refine ⟨⟨_, rfl⟩, _, rfl, _, rfl, _, _, rfl, rfl, a, deep + 1, rfl, g5.2, by omega, by omega, fun H6 m g6 hm => ⟨_, rfl, by omega, by omega, ?_⟩⟩
      refine lcQ a g6.2 (List.range m) (fun _ v => ∃ c : Nat, v = V.str ⟨#[c]⟩ ∧ (c = 48 ∨ c = 49)) (by rw [List.length_range]; omega) ?_ ?_ ?_ ?_
      · intro j H' hj; rw [List.length_range] at hj; show j < _; omega
      · intro H'; rw [List.length_range]; show _ ≤ m; omega
      · intro j d' D x G1 G2 hj pot y Ry Rn hy
        obtain ⟨rfl, rfl⟩ := y
        refine ⟨rfl, _, rfl, a, 2, rfl, pot, by decide, by decide, fun G3 e3 g3 he3 => ?_⟩
        obtain ⟨c, hc1, hc2⟩ : ∃ c : Nat, (("01" : Str).cps.toList)[e3]? = some c ∧ (c = 48 ∨ c = 49) := by
          rw [show ("01" : Str).cps.toList = [48, 49] by decide +kernel]
          have : e3 = 0 ∨ e3 = 1 := by omega
          rcases this with rfl | rfl
          · exact ⟨48, rfl, .inl rfl⟩
          · exact ⟨49, rfl, .inr rfl⟩
        exact ⟨_, _, c, rfl, rfl, le_line (by decide +kernel), atI_nat hc1, hy _ _ g3 ⟨c, rfl, hc2⟩⟩
      intro D H7 ys nD g7 hD hys
      obtain ⟨zs, rfl, hz1, hz2⟩ := strs_of hys
      rw [List.length_range] at hz1
      have jb := join_bits hz2
      have g8 := g6.trans g7
      refine ⟨_, D, zs, rfl, rfl, .inl (SqL.of hD), by rw [sum_ones hz2]; show zs.length + zs.length * 0 ≤ 16777216; omega, ?_⟩
      have h27 := g8.1 _ _ h2
      refine ⟨_, rfl, _, rfl, q2, _, rfl, .inl (SqL.of (off_le _ _ h27)), rfl, flat_str _, _, rfl, ?_⟩
      rw [if_pos rfl, inV_str]
      cases hc : bb.contains (Txt.join "" zs) with
      | true =>
        exact iteF ⟨g5.trans g8, g8.1 _ _ hl5, g8.1 _ _ h3, ⟨bb, h27, nd, hb, by omega, fun _ z => by rw [z] at hc; cases hc⟩, _, _, _, _, _, _, _, _, rfl⟩
      | false =>
        have nin : Txt.join "" zs ∉ bb := fun z => by rw [List.contains_iff_mem.mpr z] at hc; cases hc
        refine iteT ⟨_, rfl, .inl ⟨rfl, _, SqL.of (off_le _ _ h27)⟩, _, rfl, q2, _, _, rfl, rfl, off_le _ _ h27, lt_line (by rw [sL_len]; omega), ?_⟩
        have el : sL bb ++ [V.str (Txt.join "" zs)] = sL (bb ++ [Txt.join "" zs]) := by simp [sL]
        rw [el]
        have g9 := g5.trans g8
        have off2 : ∀ b o, b ≠ q2 → off a H7 b = some o → off a (upd H7 q2 (.lst (sL (bb ++ [Txt.join "" zs])))) b = some o := fun b o h1 h => by
          have ba : b ≠ a := fun z => by rw [z, off_at] at h; cases h
          rw [off_ne ba] at h ⊢
          rw [upd_ne h1]; exact h
        refine ⟨⟨fun b o h => off2 b o (fun z => by rw [z, f2] at h; cases h) (g9.1 _ _ h), ?_⟩, off2 _ _ (Ne.symm q2l) (g8.1 _ _ hl5), off2 _ _ (Ne.symm q23) (g8.1 _ _ h3), ⟨bb ++ [Txt.join "" zs], by rw [off_ne q2a]; exact upd_same, ?_, ?_, by rw [List.length_append, List.length_singleton]; omega, fun _ z => by simp at z⟩, _, _, _, _, _, _, _, _, rfl⟩
        · obtain ⟨x, y, z1, z2⟩ := g9.2
          exact ⟨x, y, by rw [upd_ne (Ne.symm q2a)]; exact z1, z2⟩
        · rw [List.nodup_append]
          exact ⟨nd, by simp, fun u hu v hv => by rw [List.mem_singleton.mp hv]; exact fun z => nin (z ▸ hu)⟩
        · intro b hb'
          rcases List.mem_append.mp hb' with z | z
          · exact hb b z
          · rw [List.mem_singleton.mp z]; exact ⟨jb.1, by rw [jb.2]; omega⟩
    rintro σ H5 ⟨g5, hl5, h3, ⟨bb, h2, nd, hb, hle, hne⟩, u2, u3, u4, u5, u9, u10, u11, u12, rfl⟩
    have bne : bb ≠ [] := hne (by omega)
    have b6 : bb.length ≤ 6 := by omega
    refine ⟨_, rfl, 1, rfl, 1, rfl, _, _, _, _, rfl, RgC.neg (by omega) (by omega) (by decide) (by decide), ?_⟩
    have en : (((deep : Nat) : Int) - (-1)).toNat = deep + 1 := by omega
    rw [en]
    refine forG (deep + 1) (fun j σ H' => Go a H H' ∧ off a H' l = some (.lst (sL ss)) ∧ off a H' q2 = some (.lst (sL bb)) ∧ DS H a q3 ss (fun x => x ∈ bb ∧ deep < x.length + j) H' ∧
      ∃ u2 u3 u4 u5 u9 u10 u11 u12, σ = [some (.ref a), some (.ref l), u2, u3, u4, u5, some (.int (deep : Nat)), some (.ref q2), some (.ref q3), u9, u10, u11, u12]) ⟨g5, hl5, h2, ⟨[], h3, fun q hq => by simp at hq, by simp, ⟨rfl, by simp, by simp, by simp, by simp, by simp, by simp, by simp, by simp⟩, by simp, fun x => ?_⟩, _, _, _, _, _, _, _, _, rfl⟩ ?_ ?_ ?_ ?_
    · simp only [List.map_nil, List.not_mem_nil, false_iff]
      rintro ⟨z1, z2⟩
      have := (hb x z1).2
      omega
    · rintro i σ H' hi _; exact hi
    · rintro σ H' _; exact Nat.le_refl _
    · rintro j x σ H6 _ hj ⟨g6, hl6, h26, ds, u2, u3, u4, u5, u9, u10, u11, u12, rfl⟩ ⟨rfl, rfl⟩
      rename Hp => H6
      refine ⟨_, rfl, q2, rfl, ⟨_, SqL.of (off_le _ _ h26)⟩, ?_⟩
      refine forG bb.length (fun i σ H' => Go a H H' ∧ off a H' l = some (.lst (sL ss)) ∧ off a H' q2 = some (.lst (sL bb)) ∧ DS H a q3 ss (fun x => x ∈ bb ∧ (deep < x.length + j ∨ (x.length + j = deep ∧ x ∈ bb.take i))) H' ∧
        ∃ u9, σ = [some (.ref a), some (.ref l), u2, some (.int ((deep : Nat) + (j : Nat) * -1)), u4, u5, some (.int (deep : Nat)), some (.ref q2), some (.ref q3), u9, u10, u11, u12]) ⟨g6, hl6, h26, ds.congr fun x => by simp, _, rfl⟩ ?_ ?_ ?_ ?_
      · rintro i σ H' hi ⟨_, _, h, _⟩; exact itl_go (SqL.of (off_le _ _ h)) (by rw [sL_len]; exact hi)
      · rintro σ H' ⟨_, _, h, _⟩; exact itl_stop (SqL.of (off_le _ _ h)) (sL_len _)
      · rintro i x σ H7 _ hi ⟨g7, hl7, h27, ds7, u9, rfl⟩ ⟨rfl, hx⟩
        rename Hp => H7
        obtain ⟨y, hy⟩ : ∃ y, bb[i]? = some y := ⟨_, List.getElem?_eq_getElem hi⟩
        have hx' := hx _ (SqL.of (off_le _ _ h27))
        rw [sL, List.getElem?_map, hy] at hx'
        cases hx'
        have yb := List.mem_of_getElem? hy
        obtain ⟨yb1, yb2⟩ := hb y yb
        refine ⟨_, rfl, y, rfl, le_line (by omega), _, rfl, rfl, _, rfl, ?_⟩
        by_cases e : y.length + j = deep
        · rw [decide_eq_true (congrArg V.int (by omega))]
          obtain ⟨ps, d1', d2', d3', d4', d5', d6'⟩ := ds7
          have ny : y ∉ ps.map (fun q => q.2.bs) := fun z => by
            obtain ⟨_, z2 | ⟨_, z2⟩⟩ := (d6' y).mp z
            · omega
            · have nd' := nd
              rw [split_S hy, List.nodup_append] at nd'
              exact nd'.2.2 y z2 y (by simp) rfl
          have lps : ps.length ≤ 6 := Nat.le_trans (DS.len d4' fun x hx => ((d6' x).mp hx).1) b6
          refine iteT ⟨_, rfl, .inl ⟨rfl, _, SqL.of (off_le _ _ d1')⟩, _, rfl, _, rfl, _, rfl, _, rfl, a, l, q3, ss, y, ps, rfl, g7.2, hl7, ss1, ss2, ss3, d1', d2'.mono off_le, d3', by omega, d4', yb1, ny, fun H8 q t ps' gx nq e1 e2 th' tn tb dl' => ?_⟩
          obtain ⟨m1, m2, m3, m4, m5, m6⟩ := ds_more g7 f3 q3a d1' d2' d3' d5' gx nq e1 th' tn
          have lp' : ps'.length = ps.length := by rw [← List.length_map (f := (·.1)), e1, List.length_map]
          refine ⟨q3, trefs ps, _, rfl, rfl, m6, lt_line (by rw [trefs_len]; omega), ?_⟩
          have el : trefs ps ++ [V.ref q] = trefs (ps' ++ [(q, t)]) := by
            unfold trefs
            rw [List.map_append]
            congr 1
            have := congrArg (List.map V.ref) e1
            rw [List.map_map, List.map_map] at this
            exact this.symm
          rw [el]
          refine ⟨m1, m2 l _ (Ne.symm q3l) hl7, m2 q2 _ q23 h27, ⟨ps' ++ [(q, t)], by rw [off_ne q3a]; exact upd_same, m3, m4, by rw [List.map_append]; exact dl', m5, fun x => ?_⟩, _, rfl⟩
          rw [List.map_append, e2, List.mem_append, d6' x, take_snoc hy]
          simp only [List.map_cons, List.map_nil, List.mem_singleton, List.mem_append, tb]
          constructor
          · rintro (⟨z1, z2 | ⟨z2, z3⟩⟩ | z1)
            · exact ⟨z1, .inl z2⟩
            · exact ⟨z1, .inr ⟨z2, .inl z3⟩⟩
            · exact ⟨by rw [z1]; exact yb, .inr ⟨by rw [z1]; exact e, .inr z1⟩⟩
          · rintro ⟨z1, z2 | ⟨z2, z3 | z3⟩⟩
            · exact .inl ⟨z1, .inl z2⟩
            · exact .inl ⟨z1, .inr ⟨z2, z3⟩⟩
            · exact .inr z3
        · rw [decide_eq_false (fun z => e (by have := V.int.inj z; omega))]
          refine iteF ⟨g7, hl7, h27, ds7.congr fun x => ?_, _, rfl⟩
          rw [take_snoc hy]
          simp only [List.mem_append, List.mem_singleton]
          constructor
          · rintro ⟨z1, z2 | ⟨z2, z3⟩⟩
            · exact ⟨z1, .inl z2⟩
            · exact ⟨z1, .inr ⟨z2, .inl z3⟩⟩
          · rintro ⟨z1, z2 | ⟨z2, z3 | z3⟩⟩
            · exact ⟨z1, .inl z2⟩
            · exact ⟨z1, .inr ⟨z2, z3⟩⟩
            · exact absurd (z3 ▸ z2) e
      · rintro σ H7 ⟨g7, hl7, h27, ds7, u9, rfl⟩
        refine ⟨g7, hl7, h27, ds7.congr fun x => ?_, _, _, _, _, _, _, _, _, rfl⟩
        rw [List.take_length]
        constructor
        · rintro ⟨z1, z2 | ⟨z2, _⟩⟩ <;> exact ⟨z1, by omega⟩
        · rintro ⟨z1, z2⟩
          refine ⟨z1, ?_⟩
          by_cases z : deep < x.length + j
          · exact .inl z
          · exact .inr ⟨by omega, z1⟩
    rintro σ H6 ⟨g6, hl6, h26, ds6, u2, u3, u4, u5, u9, u10, u11, u12, rfl⟩
    have ds7 := ds6.congr (R' := fun x => x ∈ bb) fun x => ⟨fun z => z.1, fun z => ⟨z, by omega⟩⟩
    obtain ⟨ps, e1, e2, e3, e4, e5, e7⟩ := ds7
    have lps : ps.length ≤ 6 := Nat.le_trans (DS.len e4 fun x hx => (e7 x).mp hx) b6
    have pne : ps ≠ [] := fun z => by
      obtain ⟨b, hb'⟩ := List.exists_mem_of_ne_nil bb bne
      have := (e7 b).mpr hb'
      rw [z] at this; simp at this
    refine ⟨_, rfl, le_line (by show (6 : Nat) ≤ 100000; decide), fun r1 w1 => ⟨a, r1, [.int 0, .int 0, .int 0, .int 1, .int 37, .int 95], rfl, g6.2.mono (same_upd w1), by rw [off_ne (g6.new w1)]; exact upd_same, (fun z => nomatch z), by show (6 : Nat) ≤ 1000; decide, fun H7 v g7 hv => ⟨_, rfl, a, 2, rfl, g7.2, by decide, by decide, fun H8 more g8 hmore => ⟨_, _, rfl, ?_⟩⟩⟩⟩
    obtain ⟨far, rfl, hfar⟩ : ∃ far : Nat, v = .int far ∧ (far = 0 ∨ far = 1 ∨ far = 37 ∨ far = 95) := by
      simp only [List.mem_cons, List.not_mem_nil, or_false] at hv
      rcases hv with rfl | rfl | rfl | rfl | rfl | rfl
      · exact ⟨0, rfl, .inl rfl⟩
      · exact ⟨0, rfl, .inl rfl⟩
      · exact ⟨0, rfl, .inl rfl⟩
      · exact ⟨1, rfl, .inr (.inl rfl)⟩
      · exact ⟨37, rfl, .inr (.inr (.inl rfl))⟩
      · exact ⟨95, rfl, .inr (.inr (.inr rfl))⟩
    obtain ⟨fb1, fb2⟩ := far_ok hfar
    have far95 : far ≤ 95 := by omega
    have gg : Go a H6 H8 := ((Go.of (same_upd w1) g6.2).trans g7).trans g8
    have e18 := gg.1 _ _ e1
    have e28 : Ths (off q3 (off a H8)) ps := e2.mono (off_mono gg.1)
    have g68 := g6.trans gg
    clear w1 g7 g8 hv
    refine ⟨"011010", 17, rfl, rfl, ⟨by decide, fun _ _ => by decide +kernel, fun _ _ => by decide +kernel⟩, _, rfl, _, rfl, _, rfl, le_line (by decide +kernel), ?_⟩
    rw [show cutS (Txt.mul "011010" 17) none (some ((far : Nat) : Int)) = far_base far from rfl]
    refine ⟨_, rfl, q3, rfl, ⟨_, SqL.of (off_le _ _ e18)⟩, ?_⟩
    refine forG ps.length (fun i σ H' => Go a H H' ∧ off a H' q3 = some (.lst (trefs ps)) ∧ (∀ r ∈ ps, (r ∈ ps.take i → ThW (off q3 (off a H')) r.1 r.2 (far_base far ++ r.2.bs)) ∧ (r ∉ ps.take i → ThAt (off q3 (off a H')) r.1 r.2)) ∧
      ∃ u1 u2 u3 u5 u7 u9 u12, σ = [some (.ref a), u1, u2, u3, some (.str (far_base far)), u5, some (.int (deep : Nat)), u7, some (.ref q3), u9, some (.int (far : Nat)), some (.int (more : Nat)), u12]) ⟨g68, e18, fun r hr => ⟨by simp, fun _ => e28 r hr⟩, _, _, _, _, _, _, _, rfl⟩ ?_ ?_ ?_ ?_
    · rintro i σ H' hi ⟨_, h, _⟩; exact itl_go (SqL.of (off_le _ _ h)) (by rw [trefs_len]; exact hi)
    · rintro σ H' ⟨_, h, _⟩; exact itl_stop (SqL.of (off_le _ _ h)) (trefs_len _)
    · rintro i x σ H9 _ hi ⟨g9, h9, th9, u1, u2, u3, u5, u7, u9, u12, rfl⟩ ⟨rfl, hx⟩
      rename Hp => H9
      obtain ⟨r, hr⟩ : ∃ r, ps[i]? = some r := ⟨_, List.getElem?_eq_getElem hi⟩
      have hx' := hx _ (SqL.of (off_le _ _ h9))
      rw [trefs, List.getElem?_map, hr] at hx'
      cases hx'
      have rps := List.mem_of_getElem? hr
      have rn : r ∉ ps.take i := fun z => by
        have nd' : ps.Nodup := (List.pairwise_map.mp e3).imp fun h e => h (congrArg _ e)
        rw [split_S hr, List.nodup_append] at nd'
        exact nd'.2.2 r z r (by simp) rfl
      obtain ⟨rA, kA, t1, t2, t3⟩ := (th9 r rps).2 rn
      have t1' := off_le _ _ (off_le _ _ t1)
      have r5 : r.2.bs.length ≤ deep := (hb _ ((e7 _).mp (List.mem_map.mpr ⟨r, rps, rfl⟩))).2
      refine ⟨_, rfl, _, rfl, r.1, .str r.2.bs, rfl, .inl ⟨_, (Sum.inr "bits" : Key), .inl t1', rfl, rfl⟩, _, _, rfl, rfl, le_line (by omega), _, rfl, r.1, _, rfl, .inl ⟨_, (Sum.inr "whole" : Key), t1', rfl, lt_line (by show (7 : Nat) ≤ 100000; decide), rfl⟩, ?_⟩
      rw [show putK (thK r.2 rA kA) (Sum.inr "whole" : Key) (.str (far_base far ++ r.2.bs)) = thW r.2 rA kA (far_base far ++ r.2.bs) from rfl]
      have ra : r.1 ≠ a := fun z => by
        have := off_le _ _ t1
        rw [z, off_at] at this; cases this
      have r3 : r.1 ≠ q3 := fun z => by rw [z, off_at] at t1; cases t1
      have stay : ∀ b o, b ≠ r.1 → off q3 (off a H9) b = some o → off q3 (off a (upd H9 r.1 (.dK (thW r.2 rA kA (far_base far ++ r.2.bs))))) b = some o := fun b o h1 h2 => by
        have b3 : b ≠ q3 := fun z => by rw [z, off_at] at h2; cases h2
        rw [off_ne b3] at h2 ⊢
        have ba : b ≠ a := fun z => by rw [z, off_at] at h2; cases h2
        rw [off_ne ba] at h2 ⊢
        rw [upd_ne h1]; exact h2
      have dkn : ∀ b wy, off q3 (off a H9) b = some (.dK (dk wy)) → b ≠ r.1 := fun b wy h z => by
        rw [z, t1] at h
        exact dk_thK (HO.dK.inj (Option.some.inj h)).symm
      have lsn : ∀ b xs, off q3 (off a H9) b = some (.lst xs) → b ≠ r.1 := fun b xs h z => by rw [z, t1] at h; cases h
      refine ⟨⟨fun b o hb' => ?_, ?_⟩, ?_, fun r2 hr2 => ?_, _, _, _, _, _, _, _, rfl⟩
      · have ba : b ≠ a := fun z => by rw [z, off_at] at hb'; cases hb'
        rw [off_ne ba, upd_ne (fun z => by rw [z, e5 r rps] at hb'; cases hb')]
        exact g9.at hb'
      · obtain ⟨x, y, z1, z2⟩ := g9.2
        exact ⟨x, y, by rw [upd_ne (Ne.symm ra)]; exact z1, z2⟩
      · rw [off_ne q3a, upd_ne (Ne.symm r3)]
        exact off_le _ _ h9
      · rw [take_snoc hr]
        by_cases er : r2 = r
        · subst er
          refine ⟨fun _ => ⟨rA, kA, ?_, stay _ _ (dkn _ _ t2) t2, stay _ _ (lsn _ _ t3) t3⟩, fun z => absurd (List.mem_append_right _ (by simp)) z⟩
          rw [off_ne r3, off_ne ra]; exact upd_same
        · have n1 : r2.1 ≠ r.1 := fun z => er (map_inj e3 hr2 rps z)
          have mi : r2 ∈ ps.take i ++ [r] ↔ r2 ∈ ps.take i := by simp [er]
          rw [mi]
          refine ⟨fun z => ?_, fun z => ?_⟩
          · obtain ⟨rB, kB, v1, v2, v3⟩ := (th9 r2 hr2).1 z
            exact ⟨rB, kB, stay _ _ n1 v1, stay _ _ (dkn _ _ v2) v2, stay _ _ (lsn _ _ v3) v3⟩
          · obtain ⟨rB, kB, v1, v2, v3⟩ := (th9 r2 hr2).2 z
            exact ⟨rB, kB, stay _ _ n1 v1, stay _ _ (dkn _ _ v2) v2, stay _ _ (lsn _ _ v3) v3⟩
    · rintro σ H9 ⟨g9, h9, th9, u1, u2, u3, u5, u7, u9, u12, rfl⟩
      intro q nq
      have qa := g9.new nq
      have g10 := g9.step (same_upd (o := .dK []) nq)
      have h10 := off_mono (D := a) (same_upd (o := .dK []) nq) _ _ h9
      have fq := g9.free nq
      refine ⟨_, rfl, _, rfl, _, rfl, _, _, rfl, rfl, _, rfl, _, _, rfl, rfl, _, rfl, _, rfl, _, rfl, q3, _, rfl, .inl (SqL.of (off_le _ _ h10)), a, ps.length, by rw [trefs_len], g10.2, List.length_pos_iff.mpr pne, by omega, fun H11 turn g11 ht => ?_⟩
      have hq11 := g11.at (by rw [off_ne qa]; exact upd_same)
      refine ⟨hq11, dealK q3 (far + deep + more) (far_base far) turn, rfl, by show (4 : Nat) ≤ 15; decide, ?_⟩
      rw [show mergeK [] (dealK q3 (far + deep + more) (far_base far) turn) = dealK q3 (far + deep + more) (far_base far) turn from rfl]
      have g12' := g10.trans g11
      have up : ∀ b o, off a H9 b = some o → off a (upd H11 q (.dK (dealK q3 (far + deep + more) (far_base far) turn))) b = some o := fun b o h => by
        have ba : b ≠ a := fun z => by rw [z, off_at] at h; cases h
        have bq : b ≠ q := fun z => by rw [z, off_ne qa, nq] at h; cases h
        rw [off_ne ba, upd_ne bq]
        exact g11.at (off_mono (same_upd nq) _ _ h)
      refine k _ q (far + deep + more) (far_base far) turn ps ⟨fun b o hb' => up b o (g9.1 _ _ hb'), ?_⟩ fq ⟨q3, by rw [off_ne qa]; exact upd_same, up _ _ h9, fun r hr => ?_⟩ ?_
      · obtain ⟨x, y, z1, z2⟩ := g12'.2
        exact ⟨x, y, by rw [upd_ne (Ne.symm qa)]; exact z1, z2⟩
      · obtain ⟨rB, kB, v1, v2, v3⟩ := (th9 r hr).1 (by rw [List.take_length]; exact hr)
        exact ⟨rB, kB, up _ _ (off_le _ _ v1), up _ _ (off_le _ _ v2), up _ _ (off_le _ _ v3)⟩
      · refine ⟨⟨ss, ss1, ss3, ss4, e4⟩, fun z => pne (List.map_eq_nil_iff.mp z), by rw [List.length_map]; exact lps, by rw [List.length_map]; exact ht, ⟨fb1, by omega⟩, by omega, by omega, fun t ht' => ?_⟩
        obtain ⟨r, hr, rfl⟩ := List.mem_map.mp ht'
        have := (hb _ ((e7 _).mp (List.mem_map.mpr ⟨r, hr, rfl⟩))).2
        omega
end
end Cw

/-! CwX -/
set_option Elab.async false
set_option linter.all false
set_option maxRecDepth 100000
set_option maxHeartbeats 4000000
namespace Cw
open PySem PySem.Spec PyProof.Rows L2
section
variable {P : Program} {w : World} {K : PySem.W.Frag} {mg : Str → Option Value} {base : Heap}
/-! the net of a deal -/
section
variable {α : Type} {J : It} {g : TG} {te : TE} {vs : List Nat} {σ : L2.St} {H : Hp} {Q : Addr → Hp → Prop}
/-- [e for target in J]; what is gathered so far is known -/
theorem lcZ (ds : List α) (P : α → V → Hp → Prop) (hz : ds.length ≤ 100000) (mono : ∀ d v H H', Same H H' → P d v H → P d v H')
    (go : ∀ i H', i < ds.length → Same H H' → J.go i H') (stop : ∀ H', Same H H' → J.stop ds.length H')
    (turn : ∀ (i : Nat) (d : α) (D : Addr) (x : V) (H1 H2 : Hp) (ys : List V), ds[i]? = some d → H D = none → H1 D = some (.lst ys) → Paired (fun d v => P d v (off D H1)) (ds.take i) ys → Same H (off D H1) → J.yld i H1 x H2 → ∀ (Ry : VK) (Rn : Hp → Prop),
      (∀ v H3, Same H1 H3 → P d v (off D H3) → Ry v H3) → g x (wipe σ vs) H2 fun σ2 H3 => wipe σ2 vs = wipe σ vs ∧ tYes σ2 H3 fun b H4 => if b = true then te σ2 H4 Ry else Rn H4)
    (done : ∀ D H2 ys, H D = none → Same H (off D H2) → H2 D = some (.lst ys) → Paired (fun d v => P d v (off D H2)) ds ys → Q D H2) :
    ∀ D, H D = none → ∃ W : Nat → Nat → Hp → Prop, (∃ m, W 0 m (upd H D (.lst []))) ∧ ∀ i m H, W i m H →
      (J.stop i H ∧ Q D H) ∨ (J.go i H ∧ ∃ Nx : Hp → Prop, (∀ H', Nx H' → ∃ m', m' < m ∧ W (i + 1) m' H') ∧ ∀ x H', J.yld i H x H' → g x (wipe σ vs) H' fun σ2 H2 => wipe σ2 vs = wipe σ vs ∧ tYes σ2 H2 fun b H3 =>
        if b = true then te σ2 H3 fun y H4 => ∃ acc, H4 D = some (.lst acc) ∧ acc.length < sizeLine ∧ Nx (upd H4 D (.lst (acc ++ [y]))) else Nx H3) := by
  intro D nD
  refine ⟨fun i m H' => m = ds.length - i ∧ i ≤ ds.length ∧ Same H (off D H') ∧ ∃ ys, H' D = some (.lst ys) ∧ Paired (fun d v => P d v (off D H')) (ds.take i) ys, ⟨ds.length, by simp, Nat.zero_le _, ?_, [], upd_same, by simpa using Paired.nil⟩, ?_⟩
  · rw [off_upd]; exact same_off (Same.refl H) nD
  · rintro i m H' ⟨rfl, hi, e, ys, hD, hp⟩
    by_cases hlt : i < ds.length
    · obtain ⟨d, hd⟩ : ∃ d, ds[i]? = some d := ⟨_, List.getElem?_eq_getElem hlt⟩
      have hly : ys.length ≤ 100000 := by
        have h1 := paired_len hp
        rw [List.length_take] at h1
        omega
      refine .inr ⟨go i H' hlt (e.trans off_le), fun H' => i + 1 ≤ ds.length ∧ Same H (off D H') ∧ ∃ ys, H' D = some (.lst ys) ∧ Paired (fun d v => P d v (off D H')) (ds.take (i + 1)) ys, fun H' ⟨a, b⟩ => ⟨_, by omega, rfl, a, b⟩, fun x H2 y => ?_⟩
      refine turn i d D x H' H2 ys hd nD hD hp e y _ _ fun v H3 e3 hP => ?_
      refine ⟨ys, e3 _ _ hD, lt_line hly, hlt, ?_, ys ++ [v], upd_same, ?_⟩
      · rw [off_upd]; exact e.trans (off_mono e3)
      · rw [off_upd, take_snoc hd]
        exact paired_snoc (paired_mono hp fun d v h => mono d v _ _ (off_mono e3) h) hP
    · have ei : i = ds.length := by omega
      subst ei
      refine .inl ⟨stop H' (e.trans off_le), done D H' ys nD e hD ?_⟩
      rw [List.take_length] at hp
      exact hp
end
def itOf (base : Str) (t : Th) : Item := ⟨if t.kd = [] then 0 else if t.sh = true then 2 else 1, t.tg, base ++ t.bs, t.hm, t.wy, t.kd, rkOf t.hm t.wy⟩
def sp_law_object (K : PySem.W.Frag) : Sp := fun vs H Q _ => ∃ (p : Addr) (base : Str) (t : Th), vs = [.ref p] ∧ ThW H p t (base ++ t.bs) ∧ ItOk (itOf base t) ∧ ∀ H' q, Same H H' → H q = none → ItemAt K H' q (itOf base t) → Q (.ref q) H'
/-! _law_object: 0:_law_thing_here -/
abbrev n_law_object : List Str := ["_law_thing_here"]
theorem sc_law_object : FnScope n_law_object ["_law_thing_here"] (defScope s_law_object) := ⟨rfl, rfl, rfl, by decide +kernel, rfl, by decide +kernel, by decide +kernel⟩
theorem c_law_object (T : Txt K mg) (G : GiniAt P K) : Cal P w K mg base 11 (He.ga K "_law_object") ["_law_thing_here"] (sp_law_object K) := by
  refine T.d_law_object.cal sc_law_object (fun _ _ _ _ _ _ us hl => match us, hl with | [_], _ => rfl) (fun vs H Q E h => ?_) (fun cdv A outer s H vs Q E hr h => ?_)
  · obtain ⟨_, _, _, rfl, _⟩ := h; rfl
  · obtain ⟨p, base, t, rfl, ⟨rA, kA, h1, h2, h3⟩, ok, k⟩ := h
    have hu := hu_of hr
    refine ⟨_, (pss_cons (ps_if (pt_cmpR (op_eqNil K hr.units0) (pe_dget hu (pv 0) pe_str (fun _ _ => rfl)) (pe_lst pa_nil) (nomark _))
        (pss_one (ps_ret (pe_mk T.mk_Leaf (c_Item_init T) (hr.mono (by decide)) (by rfl) T.g_Leaf (pa_cons (pe_dget hu (pv 0) pe_str (fun _ _ => rfl)) (pa_cons (pe_dget hu (pv 0) pe_str (fun _ _ => rfl)) (pa_cons (pe_dget hu (pv 0) pe_str (fun _ _ => rfl)) (pa_cons (pe_dget hu (pv 0) pe_str (fun _ _ => rfl)) pa_nil))))))) pss_nil)
      (pss_cons (ps_if (pt_val (pe_dget hu (pv 0) pe_str (fun _ _ => rfl)))
        (pss_one (ps_ret (pe_mk T.mk_Closed (c_Gatherer_init T G) (hr.mono (by decide)) (by rfl) T.g_Closed (pa_cons (pe_dget hu (pv 0) pe_str (fun _ _ => rfl)) (pa_cons (pe_dget hu (pv 0) pe_str (fun _ _ => rfl)) (pa_cons (pe_dget hu (pv 0) pe_str (fun _ _ => rfl)) (pa_cons (pe_dget hu (pv 0) pe_str (fun _ _ => rfl)) (pa_cons (pe_dget hu (pv 0) pe_str (fun _ _ => rfl)) pa_nil)))))))) pss_nil)
      (pss_one (ps_ret (pe_mk T.mk_Gatherer (c_Gatherer_init T G) (hr.mono (by decide)) (by rfl) T.g_Gatherer (pa_cons (pe_dget hu (pv 0) pe_str (fun _ _ => rfl)) (pa_cons (pe_dget hu (pv 0) pe_str (fun _ _ => rfl)) (pa_cons (pe_dget hu (pv 0) pe_str (fun _ _ => rfl)) (pa_cons (pe_dget hu (pv 0) pe_str (fun _ _ => rfl)) (pa_cons (pe_dget hu (pv 0) pe_str (fun _ _ => rfl)) pa_nil)))))))))), ?_⟩
    refine ⟨_, rfl, p, .ref kA, rfl, .inl ⟨_, (Sum.inr "kids" : Key), .inl h1, rfl, rfl⟩, le_line (by show (0 : Nat) ≤ 100000; decide), fun l nl => ⟨kA, l, _, rfl, rfl, SqL.of (same_upd nl _ _ h3), SqL.of upd_same, _, rfl, ?_⟩⟩
    have e1 : Same H (upd H l (.lst [])) := same_upd nl
    have g1 := e1 _ _ h1
    have g2 := e1 _ _ h2
    have g3 := e1 _ _ h3
    generalize upd H l (.lst []) = H1 at e1 g1 g2 g3 ⊢
    by_cases hk : t.kd = []
    · rw [hk]
      refine iteT ?_
      have hk0 : (itOf base t).k = 0 := if_pos hk
      refine ⟨_, rfl, p, .str t.tg, rfl, .inl ⟨_, (Sum.inr "tag" : Key), .inl g1, rfl, rfl⟩, _, rfl, p, .str (base ++ t.bs), rfl, .inl ⟨_, (Sum.inr "whole" : Key), .inl g1, rfl, rfl⟩, _, rfl, p, .str t.hm, rfl, .inl ⟨_, (Sum.inr "home" : Key), .inl g1, rfl, rfl⟩, _, rfl, p, .ref rA, rfl, .inl ⟨_, (Sum.inr "road" : Key), .inl g1, rfl, rfl⟩, ?_⟩
      intro r dx nr ndx hne
      have n1 : Same H1 (upd (upd H1 dx (.own r)) r (.ins (He.ga K "Leaf") dx [])) := (same_upd ndx).trans (same_upd (by rw [upd_ne hne.symm]; exact nr))
      have ec : clsOf K (itOf base t).k = He.ga K "Leaf" := by rw [hk0]; rfl
      refine ⟨r, dx, rA, itOf base t, t.wy, rfl, upd_same.trans (congrArg (fun C => some (HO.ins C dx [])) ec.symm), n1 _ _ g2, List.Perm.refl _, ok, fun H4 wA pA wy' B f1 f2 f3 f4 => ⟨rfl, ?_⟩⟩
      refine k H4 r (e1.trans (B.back n1 nr)) (e1.free nr) ⟨by rw [hk0]; decide, dx, wA, pA, 0, wy', ?_, f2, f3, ?_, fun z => absurd hk0 z⟩
      · rw [f1]
        unfold fl fl0; rw [if_pos hk0]; rfl
      · rw [f4]; unfold partsOf parts0; rw [if_pos hk0]
    · have : (sL t.kd).isEmpty = false := by
        cases hz : t.kd with
        | nil => exact absurd hz hk
        | cons _ _ => rfl
      rw [this]
      refine iteF ?_
      refine ⟨_, rfl, p, .bl t.sh, rfl, .inl ⟨_, (Sum.inr "shut" : Key), .inl g1, rfl, rfl⟩, _, rfl, ?_⟩
      cases hs : t.sh with
      | true =>
        refine iteT ?_
        refine ⟨_, rfl, p, .str t.tg, rfl, .inl ⟨_, (Sum.inr "tag" : Key), .inl g1, rfl, rfl⟩, _, rfl, p, .str (base ++ t.bs), rfl, .inl ⟨_, (Sum.inr "whole" : Key), .inl g1, rfl, rfl⟩, _, rfl, p, .str t.hm, rfl, .inl ⟨_, (Sum.inr "home" : Key), .inl g1, rfl, rfl⟩, _, rfl, p, .ref kA, rfl, .inl ⟨_, (Sum.inr "kids" : Key), .inl g1, rfl, rfl⟩, _, rfl, p, .ref rA, rfl, .inl ⟨_, (Sum.inr "road" : Key), .inl g1, rfl, rfl⟩, ?_⟩
        intro r dx nr ndx hne
        have n1 : Same H1 (upd (upd H1 dx (.own r)) r (.ins (He.ga K "Closed") dx [])) := (same_upd ndx).trans (same_upd (by rw [upd_ne hne.symm]; exact nr))
        have hk2 : (itOf base t).k = 2 := by show (if t.kd = [] then 0 else if t.sh = true then 2 else 1) = 2; rw [if_neg hk, hs]; rfl
        have ec : clsOf K (itOf base t).k = He.ga K "Closed" := by rw [hk2]; rfl
        refine ⟨r, dx, kA, rA, itOf base t, t.wy, rfl, upd_same.trans (congrArg (fun C => some (HO.ins C dx [])) ec.symm), by rw [hk2]; decide, n1 _ _ g3, n1 _ _ g2, List.Perm.refl _, ok, fun H4 B h4 => ⟨rfl, ?_⟩⟩
        exact k H4 r (e1.trans (B.back n1 nr)) (e1.free nr) h4
      | false =>
        refine iteF ?_
        refine ⟨_, rfl, p, .str t.tg, rfl, .inl ⟨_, (Sum.inr "tag" : Key), .inl g1, rfl, rfl⟩, _, rfl, p, .str (base ++ t.bs), rfl, .inl ⟨_, (Sum.inr "whole" : Key), .inl g1, rfl, rfl⟩, _, rfl, p, .str t.hm, rfl, .inl ⟨_, (Sum.inr "home" : Key), .inl g1, rfl, rfl⟩, _, rfl, p, .ref kA, rfl, .inl ⟨_, (Sum.inr "kids" : Key), .inl g1, rfl, rfl⟩, _, rfl, p, .ref rA, rfl, .inl ⟨_, (Sum.inr "road" : Key), .inl g1, rfl, rfl⟩, ?_⟩
        intro r dx nr ndx hne
        have n1 : Same H1 (upd (upd H1 dx (.own r)) r (.ins (He.ga K "Gatherer") dx [])) := (same_upd ndx).trans (same_upd (by rw [upd_ne hne.symm]; exact nr))
        have hk2 : (itOf base t).k = 1 := by show (if t.kd = [] then 0 else if t.sh = true then 2 else 1) = 1; rw [if_neg hk, hs]; rfl
        have ec : clsOf K (itOf base t).k = He.ga K "Gatherer" := by rw [hk2]; rfl
        refine ⟨r, dx, kA, rA, itOf base t, t.wy, rfl, upd_same.trans (congrArg (fun C => some (HO.ins C dx [])) ec.symm), by rw [hk2]; decide, n1 _ _ g3, n1 _ _ g2, List.Perm.refl _, ok, fun H4 B h4 => ⟨rfl, ?_⟩⟩
        exact k H4 r (e1.trans (B.back n1 nr)) (e1.free nr) h4

theorem sub_fm {α β : Type} {f : α → List β} : ∀ {l : List α} {x : α}, x ∈ l → (f x).Sublist (l.flatMap f)
  | [], _, h => by simp at h
  | y :: r, x, h => by
    rw [List.flatMap_cons]
    rcases List.mem_cons.mp h with e | e
    · rw [e]; exact List.sublist_append_left _ _
    · exact (sub_fm e).trans (List.sublist_append_right _ _)
theorem tag_name {n : Nat} {m : Str} (h : tags[n]? = some m) : NameOk m := by
  rw [tagC_2, List.getElem?_map] at h
  cases hc : tagC[n]? with
  | none => rw [hc] at h; cases h
  | some c =>
    rw [hc] at h
    cases h
    have hb : ∀ c ∈ tagC, 97 ≤ c ∧ c ≤ 122 := by decide
    exact ⟨c, rfl, hb c (List.mem_of_getElem? hc)⟩
theorem Dl.tagOk {ss : List Str} {ts : List Th} (d : Dl ss ts) {t : Th} (h : t ∈ ts) : NameOk t.tg := by
  have : t.tg ∈ tags.take ts.length := by rw [← d.tg]; exact List.mem_map.mpr ⟨t, h, rfl⟩
  obtain ⟨n, hn⟩ := List.mem_iff_getElem?.mp (List.mem_of_mem_take this)
  exact tag_name hn
theorem item_ok {wide turn : Nat} {base : Str} {ts : List Th} (d : DealOk wide base turn ts) (w2 : wide ≤ 100) {t : Th} (ht : t ∈ ts) : ItOk (itOf base t) := by
  obtain ⟨ss, ss1, ss3, ss4, dl⟩ := d.ss
  have rd := dl.rd t ht
  have hm := dl.hm t ht
  have r5 := road_len rd hm
  have kn : ∀ k ∈ keys t.wy, NameOk k := fun k hk => ss4 k (rd.sub k hk)
  have way : WayOk (itOf base t) := road_way rd (by omega) _ _ _ _
  refine ⟨?_, dl.tagOk ht, bits_app d.bb.1 (dl.bits t ht), ?_, ss4 _ hm, way, fun p hp => ⟨kn _ (List.mem_map.mpr ⟨p, hp, rfl⟩), ?_⟩, fun hk => ?_⟩
  · show (if t.kd = [] then 0 else if t.sh = true then 2 else 1) ≤ 2
    split
    · omega
    · split <;> omega
  · show (base ++ t.bs).length ≤ 100
    rw [len_app]
    have := (d.few t ht).2
    omega
  · rcases way.val p hp with z | z
    · rw [z]; exact ss4 _ hm
    · exact kn _ z
  · have kne : t.kd ≠ [] := fun z => hk (if_pos z)
    have hd : t.kd.Nodup := dl.dis.sublist (sub_fm ht)
    have km : ∀ m ∈ t.kd, NameOk m ∧ m ≠ t.tg ∧ m ∈ ts.map (·.tg) := fun m hm => by
      obtain ⟨x, hx, e1, e2, e3, _⟩ := dl.kid t ht m hm
      rw [← e1]
      refine ⟨dl.tagOk hx, fun z => ?_, List.mem_map.mpr ⟨x, hx, rfl⟩⟩
      have := map_inj dl.tgU hx ht z
      rw [this] at e3; omega
    refine ⟨kne, ?_, hd, fun m hm => ⟨(km m hm).1, (km m hm).2.1⟩, dl.srt t ht⟩
    have := nodup_le hd fun m hm => (km m hm).2.2
    rw [List.length_map] at this
    have := d.len
    show t.kd.length ≤ 10
    omega
end
end Cw

/-! CwX1 -/
set_option Elab.async false
set_option linter.all false
set_option maxRecDepth 100000
set_option maxHeartbeats 4000000
namespace Cw
open PySem PySem.Spec PyProof.Rows L2
section
variable {P : Program} {w : World} {K : PySem.W.Frag} {mg : Str → Option Value} {base : Heap}
/-! a deal's items are a net -/
theorem pre_app {b x y : Str} (h : pre x y) : pre (b ++ x) (b ++ y) := by
  have e : ∀ z : Str, (b ++ z).cps.toList = b.cps.toList ++ z.cps.toList := fun z => Array.toList_append
  unfold pre
  rw [e, e]
  exact (List.prefix_append_right_inj _).mpr h
theorem app_inj {b x y : Str} (h : b ++ x = b ++ y) : x = y := by
  have e : ∀ z : Str, (b ++ z).cps.toList = b.cps.toList ++ z.cps.toList := fun z => Array.toList_append
  have h2 := congrArg (fun z : Str => z.cps.toList) h
  simp only [e] at h2
  have := List.append_cancel_left h2
  obtain ⟨x⟩ := x
  obtain ⟨y⟩ := y
  have : x = y := Array.toList_inj.mp this
  rw [this]
theorem fm_sub2 {α β : Type} {f : α → List β} {l m : List α} (h : l.Sublist m) : (l.flatMap f).Sublist (m.flatMap f) := by
  induction h with
  | slnil => exact List.Sublist.refl _
  | cons a _ ih => rw [List.flatMap_cons]; exact ih.trans (List.sublist_append_right _ _)
  | cons_cons a _ ih => rw [List.flatMap_cons, List.flatMap_cons]; exact (List.Sublist.refl _).append ih
theorem net_ok {wide turn : Nat} {base : Str} {ts : List Th} {its : List Item} (d : DealOk wide base turn ts) (hp : its.Perm (ts.map (itOf base))) : NetOk wide its := by
  obtain ⟨ss, ss1, ss3, ss4, dl⟩ := d.ss
  have w2 : wide ≤ 100 := by have := d.w2; have := d.bb.2; omega
  have mem : ∀ it ∈ its, ∃ t ∈ ts, itOf base t = it := fun it hi => List.mem_map.mp (hp.mem_iff.mp hi)
  have inn : ∀ t ∈ ts, itOf base t ∈ its := fun t ht => hp.mem_iff.mpr (List.mem_map.mpr ⟨t, ht, rfl⟩)
  have stU : (its.map (·.st)).Nodup := by
    refine ((hp.map _).nodup_iff).mpr ?_
    rw [List.map_map]
    have := dl.bs
    rw [List.Nodup, List.pairwise_map] at this ⊢
    exact this.imp fun h z => h (app_inj z)
  refine ⟨d.w1, w2, fun z => ?_, ?_, fun it hi => ?_, fun it hi => ?_, ?_, stU, fun g hg hk m hm => ?_, ?_, ⟨ss, by omega, fun it hi => ?_⟩, ?_, fun it hi => ?_⟩
  · rw [z] at hp
    exact d.ne (List.map_eq_nil_iff.mp hp.nil_eq.symm)
  · rw [hp.length_eq, List.length_map]; exact d.len
  · obtain ⟨t, ht, rfl⟩ := mem it hi
    exact item_ok d w2 ht
  · obtain ⟨t, ht, rfl⟩ := mem it hi
    show (base ++ t.bs).length ≤ wide
    rw [len_app]; exact (d.few t ht).2
  · refine ((hp.map _).nodup_iff).mpr ?_
    rw [List.map_map]
    exact dl.tgU
  · obtain ⟨t, ht, rfl⟩ := mem g hg
    obtain ⟨x, hx, e1, _, e3, e4, e5⟩ := dl.kid t ht m hm
    refine ⟨_, inn x hx, e1, ?_, pre_app e4, ?_⟩
    · show (base ++ t.bs).length < (base ++ x.bs).length
      rw [len_app, len_app]; omega
    · rcases e5 with z | z
      · exact .inl z
      · exact .inr z
  · have h1 : ((its.filter fun g => decide (g.k ≠ 0)).flatMap (·.mb)).Perm (((ts.map (itOf base)).filter fun g => decide (g.k ≠ 0)).flatMap (·.mb)) := (hp.filter _).flatMap_right _
    refine h1.nodup_iff.mpr ?_
    have h2 : (((ts.map (itOf base)).filter fun g => decide (g.k ≠ 0)).flatMap (·.mb)).Sublist ((ts.map (itOf base)).flatMap (·.mb)) := by
      exact fm_sub2 List.filter_sublist
    refine List.Nodup.sublist h2 ?_
    rw [List.flatMap_map]
    exact dl.dis
  · obtain ⟨t, ht, rfl⟩ := mem it hi
    exact ⟨dl.hm t ht, fun h hh => (dl.rd t ht).sub h hh⟩
  · rw [(hp.filter _).length_eq]
    cases hts : ts with
    | nil => simp
    | cons t r =>
      have h0 : t.kd = [] := dl.fst t (by rw [hts]; rfl)
      have hk : (itOf base t).k = 0 := if_pos h0
      rw [List.map_cons, List.filter_cons_of_neg (by rw [hk]; simp)]
      have h1 := List.length_filter_le (fun g : Item => decide (g.k ≠ 0)) (r.map (itOf base))
      have h2 := d.len
      rw [hts, List.length_cons] at h2
      rw [List.length_map] at h1
      omega
  · obtain ⟨t, ht, rfl⟩ := mem it hi
    have nd : (((its.filter fun o => decide (pre o.st (itOf base t).st))).map fun o => o.st.length).Nodup := by
      have n2 : ((its.filter fun o => decide (pre o.st (itOf base t).st)).map (·.st)).Nodup := stU.sublist (List.filter_sublist.map _)
      rw [List.Nodup, List.pairwise_map] at n2 ⊢
      refine List.Pairwise.imp_of_mem ?_ n2
      intro x y hx hy hne e
      have px := of_decide_eq_true (List.mem_filter.mp hx).2
      have py := of_decide_eq_true (List.mem_filter.mp hy).2
      exact hne (pre_eq px py e)
    have := nodup_le (m := (List.range 5).map (fun i => base.length + i)) nd fun n hn => by
      obtain ⟨o, ho, rfl⟩ := List.mem_map.mp hn
      obtain ⟨x, hx, rfl⟩ := mem o (List.mem_filter.mp ho).1
      refine List.mem_map.mpr ⟨x.bs.length, List.mem_range.mpr ?_, ?_⟩
      · have := (d.few x hx).1; omega
      · show base.length + x.bs.length = (base ++ x.bs).length
        rw [len_app]
    rw [List.length_map, List.length_map, List.length_range] at this
    exact this
end
end Cw

/-! CwX2 -/
set_option Elab.async false
set_option linter.all false
set_option maxRecDepth 100000
set_option maxHeartbeats 4000000
namespace Cw
open PySem PySem.Spec PyProof.Rows L2
section
variable {P : Program} {w : World} {K : PySem.W.Frag} {mg : Str → Option Value} {base : Heap}
/-! the net of a deal is made -/
def ItNew (K : PySem.W.Frag) (base : Str) (r : Addr × Th) (v : V) (H : Hp) : Prop := ∃ q, v = .ref q ∧ ItemAt K H q (itOf base r.2)
theorem itnew_pairs {K : PySem.W.Frag} {base : Str} {H : Hp} : ∀ {ps : List (Addr × Th)} {ys : List V}, Paired (fun r v => ItNew K base r v H) ps ys → ∃ ips : List (Addr × Item), ys = refs ips ∧ Ats K H ips ∧ ips.map (·.2) = ps.map (fun r => itOf base r.2) := by
  intro ps ys h
  induction h with
  | nil => exact ⟨[], rfl, fun q hq => by simp at hq, rfl⟩
  | @cons r v ps ys hv _ ih =>
    obtain ⟨q, rfl, hq⟩ := hv
    obtain ⟨ips, rfl, h1, h2⟩ := ih
    refine ⟨(q, itOf base r.2) :: ips, rfl, fun x hx => ?_, by rw [List.map_cons, h2]; rfl⟩
    rcases List.mem_cons.mp hx with e | e
    · rw [e]; exact hq
    · exact h1 x e
theorem item_off {K : PySem.W.Frag} {mg : Str → Option Value} (T : Txt K mg) {H : Hp} {q D : Addr} {it : Item} (h : ItemAt K H q it) (ok : ItOk it) {ys : List V} (hD : H D = some (.lst ys)) (hy : ∀ v ∈ ys, ∃ p, v = V.ref p) : ItemAt K (off D H) q it := by
  obtain ⟨k, dx, wA, pA, mA, wy, h1, h2, h3, h4, h5⟩ := h
  refine ⟨k, dx, wA, pA, mA, wy, ?_, h2, ?_, ?_, fun hk => ?_⟩
  · exact off_of h1 (fun z => by rw [z, hD] at h1; cases h1)
  · exact off_of h3 (fun z => by rw [z, hD] at h3; cases h3)
  · exact off_of h4 (fun z => by rw [z, hD] at h4; cases h4)
  · refine off_of (h5 hk) (fun z => ?_)
    have := h5 hk
    rw [z, hD] at this
    have e := HO.lst.inj (Option.some.inj this)
    have mn := (ok.mb hk).1
    cases hm : it.mb with
    | nil => exact mn hm
    | cons x r =>
      rw [hm] at e
      obtain ⟨p, hp⟩ := hy (.str x) (by rw [e]; exact List.mem_cons_self ..)
      cases hp
def sp_law_made (K : PySem.W.Frag) : Sp := fun vs H Q _ => ∃ (q : Addr) (wide turn : Nat) (base : Str) (ps : List (Addr × Th)), vs = [.ref q] ∧ DealAt H q wide base turn ps ∧ DealOk wide base turn (ps.map (·.2)) ∧
  ∀ H' p its, Same H H' → H p = none → its.Perm (ps.map (fun r => itOf base r.2)) → NetOk wide its → NetAt K H' p wide its → Q (.ref p) H'
/-! _law_made: 0:_law_deal_here 1:_law_some 2:_law_thing_here -/
abbrev n_law_made : List Str := ["_law_deal_here", "_law_some", "_law_thing_here"]
theorem sc_law_made : FnScope n_law_made ["_law_deal_here"] (defScope s_law_made) := ⟨rfl, rfl, rfl, by decide +kernel, rfl, by decide +kernel, by decide +kernel⟩
theorem c_law_made (T : Txt K mg) (G : GiniAt P K) : Cal P w K mg base 12 (He.ga K "_law_made") ["_law_deal_here"] (sp_law_made K) := by
  refine T.d_law_made.cal sc_law_made (fun _ _ _ _ _ _ us hl => match us, hl with | [_], _ => rfl) (fun vs H Q E h => ?_) (fun cdv A outer s H vs Q E hr h => ?_)
  · obtain ⟨_, _, _, _, _, rfl, _⟩ := h; rfl
  · obtain ⟨q, wide, turn, base, ps, rfl, ⟨tA, h1, h2, h3⟩, d, k⟩ := h
    have w2 : wide ≤ 100 := by have := d.w2; have := d.bb.2; omega
    have l6 : ps.length ≤ 6 := by have := d.len; rwa [List.length_map] at this
    have tl : turn < ps.length := by have := d.turn; rwa [List.length_map] at this
    have hu := hu_of hr
    refine ⟨_, (pss_cons (ps_setLc (i := 1) (own := [("_law_thing_here", 2)]) (g := gName 2) (tt := tYes) rfl sc_law_made.nd rfl rfl (sw_true rfl rfl rfl (by decide +kernel)) (kpi_list K (pe_dget hu (pv 0) pe_str (fun _ _ => rfl))) (blkOk_by (N := n_law_made) (sc := defScope s_law_made) (by decide +kernel)) (fun _ _ _ _ _ => (pg_name (i := 2) sc_law_made.nd rfl (Or.inl rfl))) (fun _ _ _ _ _ => pts_nil) (fun _ _ _ _ _ => (pe_cal (c_law_object T G) (hr.mono (by decide)) (by rfl) T.g_law_object (pa_cons (pv 2) pa_nil))))
      (pss_one (ps_ret (pe_mk T.mk_Gathered (c_Gathered_init T) (hr.mono (by decide)) (by rfl) T.g_Gathered (pa_cons (pe_dget hu (pv 0) pe_str (fun _ _ => rfl)) (pa_cons (pe_op op_cat (pe_slice (ksl_list K) (pv 1) (po_some (pe_dget hu (pv 0) pe_str (fun _ _ => rfl))) po_none) (pe_slice (ksl_list K) (pv 1) po_none (po_some (pe_dget hu (pv 0) pe_str (fun _ _ => rfl))))) pa_nil)))))), ?_⟩
    refine ⟨_, rfl, q, .ref tA, rfl, .inl ⟨_, (Sum.inr "things" : Key), .inl h1, rfl, rfl⟩, tA, rfl, ⟨_, SqL.of h2⟩, ?_⟩
    refine lcZ ps (fun r v H => ItNew K base r v H) (by omega) (fun r v H H' e h => by obtain ⟨q, e1, e2⟩ := h; exact ⟨q, e1, e2.mono e⟩) ?_ ?_ ?_ ?_
    · intro i H' hi e; exact itl_go (SqL.of (e _ _ h2)) (by rw [trefs_len]; exact hi)
    · intro H' e; exact itl_stop (SqL.of (e _ _ h2)) (trefs_len _)
    · intro i r D x G1 G2 ys hr nD hD hys e y Ry Rn hy
      obtain ⟨rfl, hx⟩ := y
      have hx' := hx _ (SqL.of (off_le _ _ (e _ _ h2)))
      rw [trefs, List.getElem?_map, hr] at hx'
      cases hx'
      have rps := List.mem_of_getElem? hr
      have oki := item_ok d w2 (List.mem_map.mpr ⟨r, rps, rfl⟩)
      refine ⟨rfl, _, rfl, r.1, base, r.2, rfl, ((h3 r rps).mono e).mono off_le, oki, fun H3 p e3 np hi => hy _ _ e3 ⟨p, rfl, ?_⟩⟩
      refine item_off T hi oki (e3 _ _ hD) fun v hv => ?_
      obtain ⟨j, hj, ej⟩ := List.mem_iff_getElem.mp hv
      have hl := paired_len hys
      obtain ⟨r2, hr2⟩ : ∃ r2, (ps.take i)[j]? = some r2 := ⟨_, List.getElem?_eq_getElem (by omega)⟩
      obtain ⟨v2, hv2, p2, e2, _⟩ := paired_getL hys hr2
      rw [List.getElem?_eq_getElem hj, ej] at hv2
      cases hv2
      exact ⟨p2, e2⟩
    intro D H1 ys nD e hD hpr
    obtain ⟨ips, rfl, hats, hmap⟩ := itnew_pairs hpr
    have s1 : Same H H1 := e.trans off_le
    have hat1 : Ats K H1 ips := hats.mono off_le
    have lip : ips.length = ps.length := by have := congrArg List.length hmap; rwa [List.length_map, List.length_map] at this
    have h11 := s1 _ _ h1
    refine ⟨_, rfl, q, .int wide, rfl, .inl ⟨_, (Sum.inr "wide" : Key), .inl h11, rfl, rfl⟩, ?_⟩
    refine ⟨_, rfl, _, rfl, q, .int turn, rfl, .inl ⟨_, (Sum.inr "turn" : Key), .inl h11, rfl, rfl⟩, _, rfl, D, _, rfl, SqL.of hD, fun a1 m1 => ?_⟩
    rw [cut_from (by rw [refs_len]; omega)]
    refine ⟨_, rfl, _, rfl, q, .int turn, rfl, .inl ⟨_, (Sum.inr "turn" : Key), .inl (same_upd m1 _ _ h11), rfl, rfl⟩, _, rfl, D, _, rfl, SqL.of (same_upd m1 _ _ hD), fun a2 m2 => ?_⟩
    rw [cut_to]
    refine ⟨a1, a2, _, _, rfl, rfl, same_upd m2 _ _ upd_same, upd_same, le_line (by rw [List.length_drop, List.length_take, refs_len]; omega), fun a3 m3 => ?_⟩
    have er : (refs ips).drop turn ++ (refs ips).take turn = refs (ips.drop turn ++ ips.take turn) := by simp [refs, List.map_drop, List.map_take]
    rw [er]
    have s2 : Same H1 (upd (upd (upd H1 a1 (.lst ((refs ips).drop turn))) a2 (.lst ((refs ips).take turn))) a3 (.lst (refs (ips.drop turn ++ ips.take turn)))) := ((same_upd m1).trans (same_upd m2)).trans (same_upd m3)
    have h3' : (upd (upd (upd H1 a1 (.lst ((refs ips).drop turn))) a2 (.lst ((refs ips).take turn))) a3 (.lst (refs (ips.drop turn ++ ips.take turn)))) a3 = some (.lst (refs (ips.drop turn ++ ips.take turn))) := upd_same
    generalize upd (upd (upd H1 a1 (.lst ((refs ips).drop turn))) a2 (.lst ((refs ips).take turn))) a3 (.lst (refs (ips.drop turn ++ ips.take turn))) = H2 at s2 h3' ⊢
    have pm := rot_perm ips turn
    generalize ips.drop turn ++ ips.take turn = rot at pm h3' ⊢
    have hp : (rot.map (·.2)).Perm (ps.map (fun r => itOf base r.2)) := by rw [← hmap]; exact pm.map _
    have okn : NetOk wide (rot.map (·.2)) := net_ok d (by rw [List.map_map]; exact hp)
    intro p dx np ndx hne
    have n1 : Same H2 (upd (upd H2 dx (.own p)) p (.ins (He.ga K "Gathered") dx [])) := (same_upd ndx).trans (same_upd (by rw [upd_ne hne.symm]; exact np))
    refine ⟨p, dx, a3, wide, rot, rfl, upd_same, n1 _ _ h3', fun x hx => ((hat1 x (pm.mem_iff.mp hx)).mono s2).mono n1, okn, fun H4 B h4 => ⟨rfl, ?_⟩⟩
    exact k H4 p _ ((s1.trans s2).trans (B.back n1 np)) ((s1.trans s2).free np) hp okn h4
end
end Cw

/-! CwY -/
set_option Elab.async false
set_option linter.all false
set_option maxRecDepth 100000
set_option maxHeartbeats 4000000
namespace Cw
open PySem PySem.Spec PyProof.Rows L2
section
variable {P : Program} {w : World} {K : PySem.W.Frag} {mg : Str → Option Value} {base : Heap}
/-! lists of a deal -/
def lowF (r : Addr × Th) : Bool := decide (r.2.kd = [])
def sp_law_low (K : PySem.W.Frag) : Sp := fun vs H Q _ => ∃ (q : Addr) (wide turn : Nat) (base : Str) (ps : List (Addr × Th)), vs = [.ref q] ∧ DealAt H q wide base turn ps ∧ ps.length ≤ 6 ∧
  ∀ H' r ts, Same H H' → H r = none → H' r = some (.lst (sL ts)) → ts.Perm ((ps.filter lowF).map fun r => r.2.tg) → Q (.ref r) H'
/-! _law_low: 0:_law_deal_here 1:_law_thing_here -/
abbrev n_law_low : List Str := ["_law_deal_here", "_law_thing_here"]
theorem sc_law_low : FnScope n_law_low ["_law_deal_here"] (defScope s_law_low) := ⟨rfl, rfl, rfl, by decide +kernel, rfl, by decide +kernel, by decide +kernel⟩
theorem c_law_low (T : Txt K mg) : Cal P w K mg base 1 (He.ga K "_law_low") ["_law_deal_here"] (sp_law_low K) := by
  refine T.d_law_low.cal sc_law_low (fun _ _ _ _ _ _ us hl => match us, hl with | [_], _ => rfl) (fun vs H Q E h => ?_) (fun cdv A outer s H vs Q E hr h => ?_)
  · obtain ⟨_, _, _, _, _, rfl, _⟩ := h; rfl
  · obtain ⟨q, wide, turn, base, ps, rfl, ⟨tA, h1, h2, h3⟩, l6, k⟩ := h
    have hu := hu_of hr
    refine ⟨_, (pss_one (ps_ret (pe_callB (kcr_sortedS K) (by rfl) T.b_sorted bt_sorted (pa_cons (pe_lc (own := [("_law_thing_here", 1)]) (g := gName 1) rfl sc_law_low.nd (kpi_list K (pe_dget hu (pv 0) pe_str (fun _ _ => rfl))) (blkOk_by (N := n_law_low) (sc := defScope s_law_low) (by decide +kernel)) (fun _ _ _ _ _ => (pg_name (i := 1) sc_law_low.nd rfl (Or.inl rfl))) (fun _ _ _ _ _ => (pts_one (pt_cmpR (op_eqNil K hr.units0) (pe_dget hu (pv 1) pe_str (fun _ _ => rfl)) (pe_lst pa_nil) (nomark _)))) (fun _ _ _ _ _ => (pe_dget hu (pv 1) pe_str (fun _ _ => rfl)))) pa_nil)))), ?_⟩
    refine ⟨_, rfl, q, .ref tA, rfl, .inl ⟨_, (Sum.inr "things" : Key), .inl h1, rfl, rfl⟩, tA, rfl, ⟨_, SqL.of h2⟩, ?_⟩
    refine lcG ps lowF (fun r v _ => v = .str r.2.tg) (by omega) (fun _ _ _ _ _ h => h) ?_ ?_ ?_ ?_
    · intro i H' hi e; exact itl_go (SqL.of (e _ _ h2)) (by rw [trefs_len]; exact hi)
    · intro H' e; exact itl_stop (SqL.of (e _ _ h2)) (trefs_len _)
    · intro i r D x G1 G2 hr nD hD e y Ry Rn hy hno
      obtain ⟨rfl, hx⟩ := y
      have hx' := hx _ (SqL.of (off_le _ _ (e _ _ h2)))
      rw [trefs, List.getElem?_map, hr] at hx'
      cases hx'
      obtain ⟨rA, kA, t1, t2, t3⟩ := h3 r (List.mem_of_getElem? hr)
      have t1' := off_le _ _ (e _ _ t1)
      have t3' := off_le _ _ (e _ _ t3)
      refine ⟨rfl, _, rfl, r.1, .ref kA, rfl, .inl ⟨_, (Sum.inr "kids" : Key), .inl t1', rfl, rfl⟩, le_line (by show (0 : Nat) ≤ 100000; decide), fun l nl => ⟨kA, l, _, rfl, rfl, SqL.of (same_upd nl _ _ t3'), SqL.of upd_same, _, rfl, ?_⟩⟩
      by_cases hk : r.2.kd = []
      · rw [hk]
        exact iteT ⟨_, rfl, r.1, .str r.2.tg, rfl, .inl ⟨_, (Sum.inr "tag" : Key), .inl (same_upd nl _ _ t1'), rfl, rfl⟩, hy (by unfold lowF; rw [hk]; rfl) _ _ (same_upd nl) rfl⟩
      · have : (sL r.2.kd).isEmpty = false := by
          cases hz : r.2.kd with
          | nil => exact absurd hz hk
          | cons _ _ => rfl
        rw [this]
        exact iteF (hno (decide_eq_false hk) _ (same_upd nl))
    intro D H1 ys nD e hD hp
    have ey := paired_str (sf := fun r : Addr × Th => r.2.tg) hp
    subst ey
    have lf := List.length_filter_le lowF ps
    refine ⟨D, _, rfl, SqL.of hD, by rw [List.length_map]; omega, fun ts r pm so nr => ?_⟩
    exact k _ r ts ((e.trans off_le).trans (same_upd nr)) ((e.trans off_le).free nr) upd_same pm
def topF (r : Addr × Th) : Bool := decide (r.2.kd ≠ [])
def sp_law_tops (K : PySem.W.Frag) : Sp := fun vs H Q _ => ∃ (q : Addr) (wide turn : Nat) (base : Str) (ps : List (Addr × Th)), vs = [.ref q] ∧ DealAt H q wide base turn ps ∧ ps.length ≤ 6 ∧
  ∀ H' r ts, Same H H' → H r = none → H' r = some (.lst (sL ts)) → ts.Perm ((ps.filter topF).map fun r => r.2.tg) → Q (.ref r) H'
/-! _law_tops: 0:_law_deal_here 1:_law_thing_here -/
abbrev n_law_tops : List Str := ["_law_deal_here", "_law_thing_here"]
theorem sc_law_tops : FnScope n_law_tops ["_law_deal_here"] (defScope s_law_tops) := ⟨rfl, rfl, rfl, by decide +kernel, rfl, by decide +kernel, by decide +kernel⟩
theorem c_law_tops (T : Txt K mg) : Cal P w K mg base 1 (He.ga K "_law_tops") ["_law_deal_here"] (sp_law_tops K) := by
  refine T.d_law_tops.cal sc_law_tops (fun _ _ _ _ _ _ us hl => match us, hl with | [_], _ => rfl) (fun vs H Q E h => ?_) (fun cdv A outer s H vs Q E hr h => ?_)
  · obtain ⟨_, _, _, _, _, rfl, _⟩ := h; rfl
  · obtain ⟨q, wide, turn, base, ps, rfl, ⟨tA, h1, h2, h3⟩, l6, k⟩ := h
    have hu := hu_of hr
    refine ⟨_, (pss_one (ps_ret (pe_callB (kcr_sortedS K) (by rfl) T.b_sorted bt_sorted (pa_cons (pe_lc (own := [("_law_thing_here", 1)]) (g := gName 1) rfl sc_law_tops.nd (kpi_list K (pe_dget hu (pv 0) pe_str (fun _ _ => rfl))) (blkOk_by (N := n_law_tops) (sc := defScope s_law_tops) (by decide +kernel)) (fun _ _ _ _ _ => (pg_name (i := 1) sc_law_tops.nd rfl (Or.inl rfl))) (fun _ _ _ _ _ => (pts_one (pt_cmpR (op_neNil K hr.units0) (pe_dget hu (pv 1) pe_str (fun _ _ => rfl)) (pe_lst pa_nil) (nomark _)))) (fun _ _ _ _ _ => (pe_dget hu (pv 1) pe_str (fun _ _ => rfl)))) pa_nil)))), ?_⟩
    refine ⟨_, rfl, q, .ref tA, rfl, .inl ⟨_, (Sum.inr "things" : Key), .inl h1, rfl, rfl⟩, tA, rfl, ⟨_, SqL.of h2⟩, ?_⟩
    refine lcG ps topF (fun r v _ => v = .str r.2.tg) (by omega) (fun _ _ _ _ _ h => h) ?_ ?_ ?_ ?_
    · intro i H' hi e; exact itl_go (SqL.of (e _ _ h2)) (by rw [trefs_len]; exact hi)
    · intro H' e; exact itl_stop (SqL.of (e _ _ h2)) (trefs_len _)
    · intro i r D x G1 G2 hr nD hD e y Ry Rn hy hno
      obtain ⟨rfl, hx⟩ := y
      have hx' := hx _ (SqL.of (off_le _ _ (e _ _ h2)))
      rw [trefs, List.getElem?_map, hr] at hx'
      cases hx'
      obtain ⟨rA, kA, t1, t2, t3⟩ := h3 r (List.mem_of_getElem? hr)
      have t1' := off_le _ _ (e _ _ t1)
      have t3' := off_le _ _ (e _ _ t3)
      refine ⟨rfl, _, rfl, r.1, .ref kA, rfl, .inl ⟨_, (Sum.inr "kids" : Key), .inl t1', rfl, rfl⟩, le_line (by show (0 : Nat) ≤ 100000; decide), fun l nl => ⟨kA, l, _, rfl, rfl, SqL.of (same_upd nl _ _ t3'), SqL.of upd_same, _, rfl, ?_⟩⟩
      by_cases hk : r.2.kd = []
      · rw [hk]
        exact iteF (hno (by unfold topF; rw [hk]; rfl) _ (same_upd nl))
      · have : (sL r.2.kd).isEmpty = false := by
          cases hz : r.2.kd with
          | nil => exact absurd hz hk
          | cons _ _ => rfl
        rw [this]
        exact iteT ⟨_, rfl, r.1, .str r.2.tg, rfl, .inl ⟨_, (Sum.inr "tag" : Key), .inl (same_upd nl _ _ t1'), rfl, rfl⟩, hy (decide_eq_true hk) _ _ (same_upd nl) rfl⟩
    intro D H1 ys nD e hD hp
    have ey := paired_str (sf := fun r : Addr × Th => r.2.tg) hp
    subst ey
    have lf := List.length_filter_le topF ps
    refine ⟨D, _, rfl, SqL.of hD, by rw [List.length_map]; omega, fun ts r pm so nr => ?_⟩
    exact k _ r ts ((e.trans off_le).trans (same_upd nr)) ((e.trans off_le).free nr) upd_same pm
def LstN (H0 H : Hp) (wd : List Str) (v : V) : Prop := ∃ a, v = .ref a ∧ H a = some (.lst (sL wd)) ∧ H0 a = none
def sp_law_gones (K : PySem.W.Frag) : Sp := fun vs H Q _ => ∃ (q : Addr) (wide turn : Nat) (base : Str) (ps : List (Addr × Th)), vs = [.ref q] ∧ DealAt H q wide base turn ps ∧ ps.length ≤ 6 ∧ (ps.map fun r => r.2.tg).Nodup ∧
  ∀ H' r wds ys, Same H H' → H r = none → H' r = some (.lst ys) → Paired (LstN H H') wds ys → wds ≠ [] → wds.length ≤ 64 → (∀ wd ∈ wds, wd.Nodup ∧ wd.length ≤ 6 ∧ ∀ n ∈ wd, ∃ x ∈ ps, x.2.kd = [] ∧ x.2.tg = n) → Q (.ref r) H'
/-! _law_gones: 0:_law_deal_here 1:_law_found *2:_law_tag 3:_law_some -/
abbrev n_law_gones : List Str := ["_law_deal_here", "_law_found", "_law_tag", "_law_some"]
theorem sc_law_gones : FnScope n_law_gones ["_law_deal_here"] (defScope s_law_gones) := ⟨rfl, rfl, rfl, by decide +kernel, rfl, by decide +kernel, by decide +kernel⟩
theorem c_law_gones (T : Txt K mg) : Cal P w K mg base 2 (He.ga K "_law_gones") ["_law_deal_here"] (sp_law_gones K) := by
  refine T.d_law_gones.cal sc_law_gones (fun _ _ _ _ _ _ us hl => match us, hl with | [_], _ => rfl) (fun vs H Q E h => ?_) (fun cdv A outer s H vs Q E hr h => ?_)
  · obtain ⟨_, _, _, _, _, rfl, _⟩ := h; rfl
  · obtain ⟨q0, wide, turn, base, ps, rfl, hd0, l6, tU, k⟩ := h
    refine ⟨_, (pss_cons (ps_set (i := 1) sc_law_gones.nd rfl (Or.inl rfl) (pe_lst (pa_cons (pe_lst pa_nil) pa_nil)))
      (pss_cons (ps_for PassesOwn.never rfl (kpi_list K (pe_cal (c_law_low T) (hr.mono (by decide)) (by rfl) T.g_law_low (pa_cons (pv 0) pa_nil))) (pg_name (i := 2) sc_law_gones.nd rfl (Or.inr rfl))
        (pss_one (ps_set (i := 1) sc_law_gones.nd rfl (Or.inl rfl) (pe_op op_cat (pv 1) (pe_lc (own := [("_law_some", 3)]) (g := gName 3) (tt := tYes) rfl sc_law_gones.nd (kpi_list K (pv 1)) (blkOk_by (N := n_law_gones) (sc := defScope s_law_gones) (by decide +kernel)) (fun _ _ _ _ _ => (pg_name (i := 3) sc_law_gones.nd rfl (Or.inl rfl))) (fun _ _ _ _ _ => pts_nil) (fun _ _ _ _ _ => (pe_op op_cat (pv 3) (pe_lst (pa_cons (pv 2) pa_nil)))))))))
      (pss_one (ps_ret (pv 1))))), ?_⟩
    refine ⟨le_line (by show (0 : Nat) ≤ 100000; decide), fun a1 n1 => ⟨le_line (by show (1 : Nat) ≤ 100000; decide), fun a2 n2 => ?_⟩⟩
    have e1 : Same H (upd (upd H a1 (.lst [])) a2 (.lst [.ref a1])) := (same_upd n1).trans (same_upd n2)
    have f2 : H a2 = none := (same_upd (o := .lst []) n1).free n2
    have h1 : (upd (upd H a1 (.lst [])) a2 (.lst [.ref a1])) a1 = some (.lst (sL [])) := same_upd n2 _ _ upd_same
    have h2 : (upd (upd H a1 (.lst [])) a2 (.lst [.ref a1])) a2 = some (.lst [.ref a1]) := upd_same
    generalize upd (upd H a1 (.lst [])) a2 (.lst [.ref a1]) = H1 at e1 h1 h2 ⊢
    refine ⟨_, rfl, q0, wide, turn, base, ps, rfl, hd0.mono e1, l6, fun H2 q ns e2 nq hq pm => ⟨q, rfl, ⟨_, SqL.of hq⟩, ?_⟩⟩
    have mn : ∀ n, n ∈ ns ↔ ∃ x ∈ ps, x.2.kd = [] ∧ x.2.tg = n := fun n => by
      rw [pm.mem_iff, List.mem_map]
      constructor
      · rintro ⟨x, hx, rfl⟩
        exact ⟨x, (List.mem_filter.mp hx).1, of_decide_eq_true (List.mem_filter.mp hx).2, rfl⟩
      · rintro ⟨x, hx, hk, rfl⟩
        exact ⟨x, List.mem_filter.mpr ⟨hx, decide_eq_true hk⟩, rfl⟩
    have ln : ns.length ≤ 6 := by
      rw [pm.length_eq, List.length_map]
      have := List.length_filter_le lowF ps
      omega
    have nn : ns.Nodup := pm.nodup_iff.mpr (tU.sublist (List.filter_sublist.map _))
    refine forG ns.length (fun i σ H' => Same H2 H' ∧ ∃ (b : Addr) (wds : List (List Str)) (ys : List V) (u v : Option V), H' b = some (.lst ys) ∧ Paired (LstN H H') wds ys ∧ wds.length = 2 ^ i ∧ (∀ wd ∈ wds, wd.length ≤ i) ∧ (∀ wd ∈ wds, wd.Nodup ∧ ∀ n ∈ wd, n ∈ ns.take i) ∧ H b = none ∧
      σ = [some (.ref q0), some (.ref b), u, v]) ⟨Same.refl _, a2, [[]], [.ref a1], _, _, e2 _ _ h2, .cons ⟨a1, rfl, e2 _ _ h1, n1⟩ .nil, rfl, by simp, by simp, f2, rfl⟩ ?_ ?_ ?_ ?_
    · rintro i σ H' hi ⟨e, _⟩; exact itl_go (SqL.of (e _ _ hq)) (by rw [sL_len]; exact hi)
    · rintro σ H' ⟨e, _⟩; exact itl_stop (SqL.of (e _ _ hq)) (sL_len _)
    · rintro i x σ H3 _ hi ⟨e3, b, wds, ys, u, v, hb, hp, hl, hs, hd, fb, rfl⟩ ⟨rfl, hx⟩
      rename Hp => H3
      obtain ⟨n, hni⟩ : ∃ n, ns[i]? = some n := ⟨_, List.getElem?_eq_getElem hi⟩
      have hx' := hx _ (SqL.of (e3 _ _ hq))
      rw [sL, List.getElem?_map, hni] at hx'
      cases hx'
      have l32 : wds.length ≤ 32 := by
        rw [hl]
        calc 2 ^ i ≤ 2 ^ 5 := Nat.pow_le_pow_right (by decide) (by omega)
          _ = 32 := rfl
      refine ⟨_, rfl, _, rfl, b, rfl, ⟨_, SqL.of hb⟩, ?_⟩
      refine lcY wds (fun wd v G => LstN H G (wd ++ [n]) v) (by omega) (fun wd v G G' e h => by obtain ⟨t, h1, h2, h3⟩ := h; exact ⟨t, h1, e _ _ h2, h3⟩) ?_ ?_ ?_ ?_
      · intro j H' hj e; exact itl_go (SqL.of (e _ _ hb)) (by rw [← paired_len hp]; exact hj)
      · intro H' e; exact itl_stop (SqL.of (e _ _ hb)) (paired_len hp).symm
      · intro j wd D x G1 G2 hj nD hD e y Ry Rn hy
        obtain ⟨rfl, hx⟩ := y
        have hx' := hx _ (SqL.of (off_le _ _ (e _ _ hb)))
        obtain ⟨v, hv, t, rfl, htu, _⟩ := paired_getL hp hj
        rw [hv] at hx'
        cases hx'
        have ht1 := off_le _ _ (e _ _ htu)
        have lw := hs wd (List.mem_of_getElem? hj)
        refine ⟨rfl, _, rfl, _, rfl, le_line (by show (1 : Nat) ≤ 100000; decide), fun c nc => ⟨t, c, _, _, rfl, rfl, same_upd nc _ _ ht1, upd_same, le_line (by rw [sL_len]; show wd.length + 1 ≤ 100000; omega), fun c2 nc2 => ?_⟩⟩
        have s2 : Same G2 (upd (upd G2 c (.lst [.str n])) c2 (.lst (sL wd ++ [.str n]))) := (same_upd nc).trans (same_upd nc2)
        refine hy _ _ s2 ⟨c2, rfl, ?_, ((e1.trans e2).trans (e3.trans (e.trans off_le))).free ((same_upd nc).free nc2)⟩
        have nG := s2
        have c2D : c2 ≠ D := fun z => by
          cases h : G2 D with
          | none => exact absurd h hD
          | some o =>
            have := same_upd (o := .lst [.str n]) nc _ _ h
            rw [← z, nc2] at this
            cases this
        rw [off_ne c2D, upd_same]
        simp [sL]
      intro D G zs nD e4 hD hp2
      have s4 : Same H3 G := e4.trans off_le
      refine ⟨b, D, ys, zs, rfl, rfl, s4 _ _ hb, hD, le_line (by rw [← paired_len hp, ← paired_len hp2]; omega), fun r nr => ?_⟩
      have sr : Same H3 (upd G r (.lst (ys ++ zs))) := s4.trans (same_upd nr)
      refine ⟨e3.trans sr, r, wds ++ wds.map (fun wd => wd ++ [n]), ys ++ zs, _, _, upd_same, ?_, ?_, ?_, ?_, ((e1.trans e2).trans (e3.trans s4)).free nr, rfl⟩
      · refine paired_append (paired_mono hp fun wd v h => ?_) (paired_map_left (g := fun wd => wd ++ [n]) (paired_mono hp2 fun wd v h => ?_))
        · obtain ⟨t, h1, h2, h3⟩ := h; exact ⟨t, h1, sr _ _ h2, h3⟩
        · obtain ⟨t, h1, h2, h3⟩ := h; exact ⟨t, h1, same_upd nr _ _ (off_le _ _ h2), h3⟩
      · rw [List.length_append, List.length_map, hl, Nat.pow_succ]; omega
      · intro wd hwd
        rcases List.mem_append.mp hwd with z | z
        · have := hs wd z; omega
        · obtain ⟨w0, h0, rfl⟩ := List.mem_map.mp z
          have := hs w0 h0
          rw [List.length_append, List.length_singleton]; omega
      · intro wd hwd
        rw [take_snoc hni]
        rcases List.mem_append.mp hwd with z | z
        · exact ⟨(hd wd z).1, fun m hm => List.mem_append_left _ ((hd wd z).2 m hm)⟩
        · obtain ⟨w0, h0, rfl⟩ := List.mem_map.mp z
          obtain ⟨d1, d2⟩ := hd w0 h0
          have nin : n ∉ ns.take i := fun z => by
            have nd' := nn
            rw [split_S hni, List.nodup_append] at nd'
            exact nd'.2.2 n z n (by simp) rfl
          refine ⟨?_, fun m hm => ?_⟩
          · rw [List.nodup_append]
            exact ⟨d1, by simp, fun u hu v hv => by rw [List.mem_singleton.mp hv]; exact fun z => nin (z ▸ d2 u hu)⟩
          · rcases List.mem_append.mp hm with y | y
            · exact List.mem_append_left _ (d2 m y)
            · exact List.mem_append_right _ y
    · rintro σ H3 ⟨e3, b, wds, ys, u, v, hb, hp, hl, hs, hd, fb, rfl⟩
      refine ⟨_, rfl, k _ b wds ys (e1.trans (e2.trans e3)) fb hb hp (fun z => ?_) ?_ fun wd hwd => ⟨(hd wd hwd).1, Nat.le_trans (hs wd hwd) ln, fun n hn => (mn n).mp (List.mem_of_mem_take ((hd wd hwd).2 n hn))⟩⟩
      · rw [z] at hl
        have h1 := Nat.one_le_two_pow (n := ns.length)
        rw [← hl] at h1
        exact absurd h1 (by decide)
      · rw [hl]
        calc 2 ^ ns.length ≤ 2 ^ 6 := Nat.pow_le_pow_right (by decide) ln
          _ = 64 := rfl


theorem ones_mul : ∀ n : Nat, n < 101 → MulOk "1" (n : Int) := by
  unfold MulOk
  decide +kernel
theorem ones_ok {n : Nat} (h1 : 1 ≤ n) (h2 : n ≤ 100) : IsAd n (Txt.mul "1" (n : Int)) := by
  have b : ∀ n : Nat, n < 101 → n = 0 ∨ ((Txt.mul "1" (n : Int)).cps.toList.all (fun c => c == 49) && (Txt.mul "1" (n : Int)).length == n) = true := by decide +kernel
  rcases b n (by omega) with h | h
  · omega
  · rw [Bool.and_eq_true, List.all_eq_true, beq_iff_eq] at h
    exact ⟨fun c hc => .inr (by simpa using h.1 c hc), h.2⟩
def sp_law_asked (K : PySem.W.Frag) : Sp := fun vs H Q _ => ∃ (q : Addr) (wide turn : Nat) (base : Str) (ps : List (Addr × Th)), vs = [.ref q] ∧ DealAt H q wide base turn ps ∧ isBits base ∧ base.length ≤ wide ∧ wide ≤ base.length + 5 ∧ wide ≤ 100 ∧ 1 ≤ wide ∧
  ∀ H' r as, Same H H' → H r = none → H' r = some (.lst (sL as)) → as ≠ [] → as.length ≤ 33 → (∀ x ∈ as, IsAd wide x) → Q (.ref r) H'
/-! _law_asked: 0:_law_deal_here 1:_law_found 2:_law_bits -/
abbrev n_law_asked : List Str := ["_law_deal_here", "_law_found", "_law_bits"]
theorem sc_law_asked : FnScope n_law_asked ["_law_deal_here"] (defScope s_law_asked) := ⟨rfl, rfl, rfl, by decide +kernel, rfl, by decide +kernel, by decide +kernel⟩
theorem c_law_asked (T : Txt K mg) : Cal P w K mg base 1 (He.ga K "_law_asked") ["_law_deal_here"] (sp_law_asked K) := by
  refine T.d_law_asked.cal sc_law_asked (fun _ _ _ _ _ _ us hl => match us, hl with | [_], _ => rfl) (fun vs H Q E h => ?_) (fun cdv A outer s H vs Q E hr h => ?_)
  · obtain ⟨_, _, _, _, _, rfl, _⟩ := h; rfl
  · obtain ⟨q, wide, turn, base, ps, rfl, ⟨tA, h1, h2, h3⟩, bb, b1, b2, w2, w1, k⟩ := h
    have hu := hu_of hr
    refine ⟨_, (pss_cons (ps_set (i := 1) sc_law_asked.nd rfl (Or.inl rfl) (pe_lst (pa_cons (pe_dget hu (pv 0) pe_str (fun _ _ => rfl)) pa_nil)))
      (pss_cons (ps_while PassesOwn.never (pt_cmpR op_lt (pe_callB call_len_str (by rfl) T.b_len bt_len (pa_cons (pe_ix (kix_list K) (pv 1) pe_int (fun _ _ => rfl)) pa_nil)) (pe_dget hu (pv 0) pe_str (fun _ _ => rfl)) (nomark _)) (pss_one (ps_set (i := 1) sc_law_asked.nd rfl (Or.inl rfl) (pe_op op_cat (pe_lc (own := [("_law_bits", 2)]) (g := gName 2) (tt := tYes) rfl sc_law_asked.nd (kpi_list K (pv 1)) (blkOk_by (N := n_law_asked) (sc := defScope s_law_asked) (by decide +kernel)) (fun _ _ _ _ _ => (pg_name (i := 2) sc_law_asked.nd rfl (Or.inl rfl))) (fun _ _ _ _ _ => pts_nil) (fun _ _ _ _ _ => (pe_op op_add_str (pv 2) pe_str))) (pe_lc (own := [("_law_bits", 2)]) (g := gName 2) (tt := tYes) rfl sc_law_asked.nd (kpi_list K (pv 1)) (blkOk_by (N := n_law_asked) (sc := defScope s_law_asked) (by decide +kernel)) (fun _ _ _ _ _ => (pg_name (i := 2) sc_law_asked.nd rfl (Or.inl rfl))) (fun _ _ _ _ _ => pts_nil) (fun _ _ _ _ _ => (pe_op op_add_str (pv 2) pe_str)))))))
      (pss_one (ps_ret (pe_op op_cat (pv 1) (pe_op op_rep (pe_lst (pa_cons (pe_op op_mulStr pe_str (pe_dget hu (pv 0) pe_str (fun _ _ => rfl))) pa_nil)) (pe_callB (call_min2 rfl) (by rfl) T.b_min bt_min (pa_cons pe_int (pa_cons (pe_callB call_len_str (by rfl) T.b_len bt_len (pa_cons (pe_dget hu (pv 0) pe_str (fun _ _ => rfl)) pa_nil)) pa_nil))))))))), ?_⟩
    refine ⟨_, rfl, q, .str base, rfl, .inl ⟨_, (Sum.inr "base" : Key), .inl h1, rfl, rfl⟩, le_line (by show (1 : Nat) ≤ 100000; decide), fun a1 n1 => ?_⟩
    refine ⟨fun m σ H' => Same H H' ∧ ∃ (b : Addr) (xs : List Str) (j : Nat) (u : Option V), H' b = some (.lst (sL xs)) ∧ xs.length = 2 ^ j ∧ (∀ x ∈ xs, isBits x ∧ x.length = base.length + j) ∧ base.length + j ≤ wide ∧ m = wide - (base.length + j) ∧ H b = none ∧ σ = [some (.ref q), some (.ref b), u],
      ⟨_, same_upd n1, a1, [base], 0, _, upd_same, rfl, by simp; exact bb, b1, rfl, n1, rfl⟩, ?_⟩
    rintro m σ H1 ⟨e1, b, xs, j, u, hb, hl, hx, hj, rfl, fb, rfl⟩
    obtain ⟨x0, r0, rfl⟩ : ∃ x r, xs = x :: r := by
      cases xs with
      | nil =>
        have h1 := Nat.one_le_two_pow (n := j)
        rw [← hl] at h1
        exact absurd h1 (by decide)
      | cons x r => exact ⟨x, r, rfl⟩
    have hx0 := (hx x0 (by simp)).2
    refine ⟨_, rfl, b, _, 0, _, rfl, rfl, SqL.of hb, atI_nat (j := 0) rfl, x0, rfl, le_line (by omega), _, rfl, q, .int wide, rfl, .inl ⟨_, (Sum.inr "wide" : Key), .inl (e1 _ _ h1), rfl, rfl⟩, _, _, rfl, rfl, _, rfl, ?_⟩
    generalize x0 :: r0 = xs at hb hl hx
    have l32 : xs.length ≤ 32 := by
      rw [hl]
      calc 2 ^ j ≤ 2 ^ 5 := Nat.pow_le_pow_right (by decide) (by omega)
        _ = 32 := rfl
    by_cases hlt : ((x0.length : Nat) : Int) < (wide : Nat)
    · rw [decide_eq_true hlt]
      refine iteT ⟨_, fun _ _ z => z, ?_⟩
      refine ⟨_, rfl, b, rfl, ⟨_, SqL.of hb⟩, ?_⟩
      refine lcY xs (fun x v _ => v = .str (x ++ "0")) (by omega) (fun _ _ _ _ _ h => h) ?_ ?_ ?_ ?_
      · intro i H' hi e; exact itl_go (SqL.of (e _ _ hb)) (by rw [sL_len]; exact hi)
      · intro H' e; exact itl_stop (SqL.of (e _ _ hb)) (sL_len _)
      · intro i z D x G1 G2 hz nD hD e y Ry Rn hy
        obtain ⟨rfl, hx2⟩ := y
        have hx' := hx2 _ (SqL.of (off_le _ _ (e _ _ hb)))
        rw [sL, List.getElem?_map, hz] at hx'
        cases hx'
        have := (hx z (List.mem_of_getElem? hz)).2
        exact ⟨rfl, _, rfl, _, _, rfl, rfl, le_line (by rw [this]; show base.length + j + 1 ≤ 100000; omega), hy _ _ (Same.refl _) rfl⟩
      intro D0 H2 ys0 nD0 eD0 hD0 pD0
      have yD0 := paired_str (sf := fun x : Str => x ++ "0") pD0
      subst yD0
      have s0 : Same H1 H2 := eD0.trans off_le
      have hb2 := s0 _ _ hb
      refine ⟨_, rfl, b, rfl, ⟨_, SqL.of hb2⟩, ?_⟩
      refine lcY xs (fun x v _ => v = .str (x ++ "1")) (by omega) (fun _ _ _ _ _ h => h) ?_ ?_ ?_ ?_
      · intro i H' hi e; exact itl_go (SqL.of (e _ _ hb2)) (by rw [sL_len]; exact hi)
      · intro H' e; exact itl_stop (SqL.of (e _ _ hb2)) (sL_len _)
      · intro i z D x G1 G2 hz nD hD e y Ry Rn hy
        obtain ⟨rfl, hx2⟩ := y
        have hx' := hx2 _ (SqL.of (off_le _ _ (e _ _ hb2)))
        rw [sL, List.getElem?_map, hz] at hx'
        cases hx'
        have := (hx z (List.mem_of_getElem? hz)).2
        exact ⟨rfl, _, rfl, _, _, rfl, rfl, le_line (by rw [this]; show base.length + j + 1 ≤ 100000; omega), hy _ _ (Same.refl _) rfl⟩
      intro D1 H3 ys1 nD1 eD1 hD1 pD1
      have yD1 := paired_str (sf := fun x : Str => x ++ "1") pD1
      subst yD1
      have s1 : Same H2 H3 := eD1.trans off_le
      refine ⟨D0, D1, _, _, rfl, rfl, s1 _ _ hD0, hD1, le_line (by rw [sL_len, sL_len, List.length_map, List.length_map]; omega), fun r nr => ?_⟩
      have s2 : Same H1 (upd H3 r (.lst (sL (xs.map (fun x : Str => x ++ "0")) ++ sL (xs.map (fun x : Str => x ++ "1"))))) := (s0.trans s1).trans (same_upd nr)
      have el : sL (xs.map (fun x : Str => x ++ "0")) ++ sL (xs.map (fun x : Str => x ++ "1")) = sL (xs.map (fun x : Str => x ++ "0") ++ xs.map (fun x : Str => x ++ "1")) := by simp [sL]
      refine ⟨wide - (base.length + (j + 1)), by omega, e1.trans s2, r, _, j + 1, _, by rw [upd_same, el], ?_, fun x hx' => ?_, by omega, rfl, (e1.trans (s0.trans s1)).free nr, rfl⟩
      · rw [List.length_append, List.length_map, List.length_map, hl, Nat.pow_succ]; omega
      · have z0 : isBits "0" ∧ ("0" : Str).length = 1 := ⟨fun c hc => by
          have : c ∈ [48] := hc
          simp at this; exact .inl this, rfl⟩
        have z1 : isBits "1" ∧ ("1" : Str).length = 1 := ⟨fun c hc => by
          have : c ∈ [49] := hc
          simp at this; exact .inr this, rfl⟩
        rcases List.mem_append.mp hx' with z | z
        · obtain ⟨y, hy, rfl⟩ := List.mem_map.mp z
          exact ⟨bits_app (hx y hy).1 z0.1, by rw [len_app, (hx y hy).2, z0.2]; omega⟩
        · obtain ⟨y, hy, rfl⟩ := List.mem_map.mp z
          exact ⟨bits_app (hx y hy).1 z1.1, by rw [len_app, (hx y hy).2, z1.2]; omega⟩
    · rw [decide_eq_false hlt]
      refine iteF ?_
      have ej : base.length + j = wide := by omega
      refine ⟨_, rfl, _, rfl, q, .int wide, rfl, .inl ⟨_, (Sum.inr "wide" : Key), .inl (e1 _ _ h1), rfl, rfl⟩, _, _, rfl, rfl, ones_mul wide (by omega), le_line (by show (1 : Nat) ≤ 100000; decide), fun l nl => ?_⟩
      have s1 : Same H1 (upd H1 l (.lst [.str (Txt.mul "1" (wide : Nat))])) := same_upd nl
      have m0 : (if ((base.length : Nat) : Int) < 1 then ((base.length : Nat) : Int) else 1).toNat ≤ 1 := by split <;> omega
      refine ⟨_, rfl, q, .str base, rfl, .inl ⟨_, (Sum.inr "base" : Key), .inl (s1 _ _ (e1 _ _ h1)), rfl, rfl⟩, base, rfl, le_line (by omega), _, _, rfl, l, _, _, rfl, rfl, upd_same, by split <;> omega, by split <;> omega, le_line (by rw [List.length_singleton]; omega), fun l2 nl2 => ?_⟩
      generalize (if ((base.length : Nat) : Int) < 1 then ((base.length : Nat) : Int) else 1).toNat = m at m0 nl2 ⊢
      have el : (List.replicate m [V.str (Txt.mul "1" (wide : Nat))]).flatten = sL (List.replicate m (Txt.mul "1" (wide : Nat))) := by
        have : m = 0 ∨ m = 1 := by omega
        rcases this with rfl | rfl <;> rfl
      rw [el]
      have s2 := s1.trans (same_upd (o := .lst (sL (List.replicate m (Txt.mul "1" (wide : Nat))))) nl2)
      refine ⟨b, l2, sL xs, _, rfl, rfl, s2 _ _ hb, upd_same, le_line (by rw [sL_len, sL_len, List.length_replicate]; omega), fun r nr => ?_⟩
      have e2 : sL xs ++ sL (List.replicate m (Txt.mul "1" (wide : Nat))) = sL (xs ++ List.replicate m (Txt.mul "1" (wide : Nat))) := by simp [sL]
      refine k _ r (xs ++ List.replicate m (Txt.mul "1" (wide : Nat))) (e1.trans (s2.trans (same_upd nr))) ((e1.trans s2).free nr) (by rw [upd_same, e2]) (fun z => ?_) (by rw [List.length_append, List.length_replicate]; omega) fun x hx' => ?_
      · rw [List.append_eq_nil_iff] at z
        have h1 := Nat.one_le_two_pow (n := j)
        rw [← hl, z.1] at h1
        exact absurd h1 (by decide)
      · rcases List.mem_append.mp hx' with z | z
        · exact ⟨(hx x z).1, by rw [(hx x z).2]; exact ej⟩
        · rw [(List.mem_replicate.mp z).2]
          exact ones_ok w1 w2
end
end Cw

/-! CwY1 -/
set_option Elab.async false
set_option linter.all false
set_option maxRecDepth 100000
set_option maxHeartbeats 4000000
namespace Cw
open PySem PySem.Spec PyProof.Rows L2
section
variable {P : Program} {w : World} {K : PySem.W.Frag} {mg : Str → Option Value} {base : Heap}
/-! spots -/
def sp_law_spots : Sp := fun vs H Q _ => ∃ (q : Addr) (wide turn : Nat) (base : Str) (ps : List (Addr × Th)), vs = [.ref q] ∧ DealAt H q wide base turn ps ∧ ps.length ≤ 6 ∧ (∀ r ∈ ps, r.2.wy.length ≤ 5) ∧
  ∀ H' r ys, Same H H' → H r = none → H' r = some (.lst (sL ys)) → ys.length ≤ 36 → (∀ h, h ∈ ys ↔ ∃ x ∈ ps, h ∈ keys x.2.wy ∨ h = x.2.hm) → Q (.ref r) H'
/-! _law_spots: 0:_law_deal_here *1:_law_found 2:_law_thing_here 3:_law_spot -/
abbrev n_law_spots : List Str := ["_law_deal_here", "_law_found", "_law_thing_here", "_law_spot"]
theorem sc_law_spots : FnScope n_law_spots ["_law_deal_here"] (defScope s_law_spots) := ⟨rfl, rfl, rfl, by decide +kernel, rfl, by decide +kernel, by decide +kernel⟩
theorem c_law_spots (T : Txt K mg) : Cal P w K mg base 2 (He.ga K "_law_spots") ["_law_deal_here"] sp_law_spots := by
  refine T.d_law_spots.cal sc_law_spots (fun _ _ _ _ _ _ us hl => match us, hl with | [_], _ => rfl) (fun vs H Q E h => ?_) (fun cdv A outer s H vs Q E hr h => ?_)
  · obtain ⟨_, _, _, _, _, rfl, _⟩ := h; rfl
  · obtain ⟨q, wide, turn, base, ps, rfl, ⟨tA, h1, h2, h3⟩, l6, w5, k⟩ := h
    have hu := hu_of hr
    refine ⟨_, (pss_cons (ps_set (i := 1) sc_law_spots.nd rfl (Or.inr rfl) (pe_lst pa_nil))
      (pss_cons (ps_for PassesOwn.never rfl (kpi_list K (pe_dget hu (pv 0) pe_str (fun _ _ => rfl))) (pg_name (i := 2) sc_law_spots.nd rfl (Or.inl rfl))
        (pss_one (ps_expr (kpe_bm K PySem.F.plainAttrs_list PySem.F.slot_list_extend PySem.F.type_list_extend mt_extend (pv 1) (pa_cons (pe_lc (own := [("_law_spot", 3)]) (g := gName 3) rfl sc_law_spots.nd (kpi_list K (pe_cal (c_law_eyes T) (hr.mono (by decide)) (by rfl) T.g_law_eyes (pa_cons (pv 2) pa_nil))) (blkOk_by (N := n_law_spots) (sc := defScope s_law_spots) (by decide +kernel)) (fun _ _ _ _ _ => (pg_name (i := 3) sc_law_spots.nd rfl (Or.inl rfl))) (fun _ _ _ _ _ => (pts_one (pt_cmpR (kop_notIn_seq K) (pv 3) (pv 1) (by rfl)))) (fun _ _ _ _ _ => (pv 3))) pa_nil)))))
      (pss_one (ps_ret (pe_callB (kcr_sortedS K) (by rfl) T.b_sorted bt_sorted (pa_cons (pv 1) pa_nil)))))), ?_⟩
    refine ⟨le_line (by show (0 : Nat) ≤ 100000; decide), fun b nb => ?_⟩
    have e0 : Same H (upd H b (.lst [])) := same_upd nb
    refine ⟨_, rfl, q, .ref tA, rfl, .inl ⟨_, (Sum.inr "things" : Key), .inl (e0 _ _ h1), rfl, rfl⟩, tA, rfl, ⟨_, SqL.of (e0 _ _ h2)⟩, ?_⟩
    refine forG ps.length (fun i σ H' => Same H H' ∧ (∃ fs : List Str, H' b = some (.lst (sL fs)) ∧ fs.length ≤ 6 * i ∧ ∀ h, h ∈ fs ↔ ∃ x ∈ ps.take i, h ∈ keys x.2.wy ∨ h = x.2.hm) ∧ ∃ u v, σ = [some (.ref q), some (.ref b), u, v]) ⟨e0, ⟨[], upd_same, by simp, by simp⟩, _, _, rfl⟩ ?_ ?_ ?_ ?_
    · rintro i σ H' hi ⟨e, _⟩; exact itl_go (SqL.of (e _ _ h2)) (by rw [trefs_len]; exact hi)
    · rintro σ H' ⟨e, _⟩; exact itl_stop (SqL.of (e _ _ h2)) (trefs_len _)
    · rintro i x σ H1 _ hi ⟨e1, ⟨fs, hb, hl, mf⟩, u, v, rfl⟩ ⟨rfl, hx⟩
      rename Hp => H1
      obtain ⟨r, hr⟩ : ∃ r, ps[i]? = some r := ⟨_, List.getElem?_eq_getElem hi⟩
      have hx' := hx _ (SqL.of (e1 _ _ h2))
      rw [trefs, List.getElem?_map, hr] at hx'
      cases hx'
      have rps := List.mem_of_getElem? hr
      obtain ⟨rA, kA, t1, t2, t3⟩ := h3 r rps
      refine ⟨_, rfl, .inl ⟨rfl, _, SqL.of hb⟩, ?_⟩
      refine ⟨_, rfl, r.1, rA, _, r.2.hm, r.2.wy, rfl, e1 _ _ t1, rfl, rfl, e1 _ _ t2, by have := w5 r rps; omega, fun H2 c ys e2 nc hc pm => ⟨c, rfl, ⟨_, SqL.of hc⟩, ?_⟩⟩
      have yl : ys.length ≤ 6 := by
        have := w5 r rps
        rw [pm.length_eq, List.length_append, keys, List.length_map, List.length_singleton]; omega
      refine lcG ys (fun h => !fs.contains h) (fun h v _ => v = .str h) (by omega) (fun _ _ _ _ _ h => h) ?_ ?_ ?_ ?_
      · intro j H' hj e; exact itl_go (SqL.of (e _ _ hc)) (by rw [sL_len]; exact hj)
      · intro H' e; exact itl_stop (SqL.of (e _ _ hc)) (sL_len _)
      · intro j h D x G1 G2 hh nD hD e y Ry Rn hy hno
        obtain ⟨rfl, hx2⟩ := y
        have hx' := hx2 _ (SqL.of (off_le _ _ (e _ _ hc)))
        rw [sL, List.getElem?_map, hh] at hx'
        cases hx'
        refine ⟨rfl, _, rfl, _, rfl, b, _, rfl, .inl (SqL.of (off_le _ _ (e _ _ (e2 _ _ hb)))), rfl, flat_str _, _, rfl, ?_⟩
        rw [if_pos rfl, inV_str]
        cases hf : fs.contains h with
        | true => exact iteF (hno (by rw [hf]; rfl) _ (Same.refl _))
        | false => exact iteT ⟨_, rfl, hy (by rw [hf]; rfl) _ _ (Same.refl _) rfl⟩
      intro D H3 zs nD e3 hD hpz
      have ez := paired_str (sf := fun h : Str => h) hpz
      rw [List.map_id'] at ez
      subst ez
      have s3 : Same H1 H3 := e2.trans (e3.trans off_le)
      have lf := List.length_filter_le (fun h => !fs.contains h) ys
      refine ⟨b, D, sL fs, _, rfl, rfl, s3 _ _ hb, hD, le_line (by rw [sL_len, sL_len]; omega), ?_⟩
      have el : sL fs ++ sL (ys.filter fun h => !fs.contains h) = sL (fs ++ ys.filter fun h => !fs.contains h) := by simp [sL]
      rw [el]
      refine ⟨same_mut (e1.trans s3) nb, ⟨_, upd_same, by rw [List.length_append]; omega, fun h => ?_⟩, _, _, rfl⟩
      rw [take_snoc hr, List.mem_append, mf h, List.mem_filter, pm.mem_iff, List.mem_append, List.mem_singleton]
      constructor
      · rintro (⟨x, hx, z⟩ | ⟨z, _⟩)
        · exact ⟨x, List.mem_append_left _ hx, z⟩
        · exact ⟨r, List.mem_append_right _ (by simp), z⟩
      · rintro ⟨x, hx, z⟩
        by_cases hf : h ∈ fs
        · exact .inl ((mf h).mp hf)
        · rcases List.mem_append.mp hx with y | y
          · exact .inl ⟨x, y, z⟩
          · rw [List.mem_singleton.mp y] at z
            refine .inr ⟨z, ?_⟩
            have : fs.contains h = false := by rw [Bool.eq_false_iff]; exact fun q => hf (List.contains_iff_mem.mp q)
            rw [this]; rfl
    · rintro σ H1 ⟨e1, ⟨fs, hb, hl, mf⟩, u, v, rfl⟩
      rw [List.take_length] at mf
      refine ⟨_, rfl, b, fs, rfl, SqL.of hb, by omega, fun ys r pm so nr => ?_⟩
      exact k _ r ys (e1.trans (same_upd nr)) (e1.free nr) upd_same (by rw [pm.length_eq]; omega) fun h => by rw [pm.mem_iff]; exact mf h
end
end Cw

/-! CwY2 -/
set_option Elab.async false
set_option linter.all false
set_option maxRecDepth 100000
set_option maxHeartbeats 4000000
namespace Cw
open PySem PySem.Spec PyProof.Rows L2
section
variable {P : Program} {w : World} {K : PySem.W.Frag} {mg : Str → Option Value} {base : Heap}
/-! cases -/
structure GoneOk (ps : List (Addr × Th)) (wd : List Str) : Prop where
  nd : wd.Nodup
  few : wd.length ≤ 6
  mem : ∀ n ∈ wd, ∃ x ∈ ps, x.2.kd = [] ∧ x.2.tg = n
def CaseV (H : Hp) (c : List Str × Str) (v : V) : Prop := ∃ t g, v = .ref t ∧ H t = some (.tup [.ref g, .str c.2]) ∧ H g = some (.lst (sL c.1))
theorem CaseV.mono {H H' : Hp} {c : List Str × Str} {v : V} (h : CaseV H c v) (e : Same H H') : CaseV H' c v := by
  obtain ⟨t, g, h1, h2, h3⟩ := h
  exact ⟨t, g, h1, e _ _ h2, e _ _ h3⟩
theorem sub_strs {as : List Str} : ∀ {zs : List V}, (∀ y ∈ zs, y ∈ sL as) → ∃ xs : List Str, zs = sL xs ∧ ∀ x ∈ xs, x ∈ as
  | [], _ => ⟨[], rfl, by simp⟩
  | z :: r, h => by
    obtain ⟨xs, rfl, h1⟩ := sub_strs fun y hy => h y (List.mem_cons_of_mem _ hy)
    obtain ⟨x, hx, rfl⟩ := List.mem_map.mp (h z (List.mem_cons_self ..))
    refine ⟨x :: xs, rfl, fun y hy => ?_⟩
    rcases List.mem_cons.mp hy with e | e
    · rw [e]; exact hx
    · exact h1 y e
def sp_law_cases : Sp := fun vs H Q _ => ∃ (a q : Addr) (wide turn : Nat) (base : Str) (ps : List (Addr × Th)), vs = [.ref a, .ref q] ∧ PotAt H a ∧ DealAt (off a H) q wide base turn ps ∧ DealOk wide base turn (ps.map (·.2)) ∧
  ∀ H' r cs ys, Go a H H' → off a H r = none → off a H' r = some (.lst ys) → Paired (CaseV (off a H')) cs ys → cs.length ≤ 42 → (∀ c ∈ cs, GoneOk ps c.1 ∧ IsAd wide c.2) → Q (.ref r) H'
/-! _law_cases: 0:_law_pot_here 1:_law_deal_here 2:_law_found *3:_law_some 4:_law_bits -/
abbrev n_law_cases : List Str := ["_law_pot_here", "_law_deal_here", "_law_found", "_law_some", "_law_bits"]
theorem sc_law_cases : FnScope n_law_cases ["_law_pot_here", "_law_deal_here"] (defScope s_law_cases) := ⟨rfl, rfl, rfl, by decide +kernel, rfl, by decide +kernel, by decide +kernel⟩
theorem c_law_cases (T : Txt K mg) : Cal P w K mg base 3 (He.ga K "_law_cases") ["_law_pot_here", "_law_deal_here"] sp_law_cases := by
  refine T.d_law_cases.cal sc_law_cases (fun _ _ _ _ _ _ us hl => match us, hl with | [_, _], _ => rfl) (fun vs H Q E h => ?_) (fun cdv A outer s H vs Q E hr h => ?_)
  · obtain ⟨_, _, _, _, _, _, rfl, _⟩ := h; rfl
  · obtain ⟨a, q, wide, turn, base, ps, rfl, hp, hd0, d, k⟩ := h
    have l6 : ps.length ≤ 6 := by have := d.len; rwa [List.length_map] at this
    have tU : (ps.map fun r => r.2.tg).Nodup := by
      obtain ⟨ss, _, _, _, dl⟩ := d.ss
      have := dl.tgU
      rwa [List.map_map] at this
    have w2 : wide ≤ 100 := by have := d.w2; have := d.bb.2; omega
    have bw : base.length ≤ wide := by
      obtain ⟨t, ht⟩ := List.exists_mem_of_ne_nil _ d.ne
      have := (d.few t ht).2
      omega
    refine ⟨_, (pss_cons (ps_set (i := 2) sc_law_cases.nd rfl (Or.inl rfl) (pe_lst pa_nil))
      (pss_cons (ps_for PassesOwn.never rfl (kpi_list K (pe_cal (c_law_few T) (hr.mono (by decide)) (by rfl) T.g_law_few (pa_cons (pv 0) (pa_cons (pe_cal (c_law_gones T) (hr.mono (by decide)) (by rfl) T.g_law_gones (pa_cons (pv 1) pa_nil)) (pa_cons pe_int pa_nil))))) (pg_name (i := 3) sc_law_cases.nd rfl (Or.inr rfl))
        (pss_one (ps_expr (kpe_bm K PySem.F.plainAttrs_list PySem.F.slot_list_extend PySem.F.type_list_extend mt_extend (pv 2) (pa_cons (pe_lc (own := [("_law_bits", 4)]) (g := gName 4) (tt := tYes) rfl sc_law_cases.nd (kpi_list K (pe_cal (c_law_few T) (hr.mono (by decide)) (by rfl) T.g_law_few (pa_cons (pv 0) (pa_cons (pe_cal (c_law_asked T) (hr.mono (by decide)) (by rfl) T.g_law_asked (pa_cons (pv 1) pa_nil)) (pa_cons pe_int pa_nil))))) (blkOk_by (N := n_law_cases) (sc := defScope s_law_cases) (by decide +kernel)) (fun _ _ _ _ _ => (pg_name (i := 4) sc_law_cases.nd rfl (Or.inl rfl))) (fun _ _ _ _ _ => pts_nil) (fun _ _ _ _ _ => (pe_tup (pa_cons (pv 3) (pa_cons (pv 4) pa_nil))))) pa_nil)))))
      (pss_one (ps_ret (pv 2))))), ?_⟩
    refine ⟨le_line (by show (0 : Nat) ≤ 100000; decide), fun b nb => ?_⟩
    have ba := hp.new nb
    have g0 : Go a H (upd H b (.lst [])) := Go.of (same_upd nb) hp
    have c0 : off a (upd H b (.lst [])) b = some (.lst []) := by rw [off_ne ba]; exact upd_same
    have fb : off a H b = none := by rw [off_ne ba]; exact nb
    generalize upd H b (.lst []) = H1 at g0 c0 ⊢
    have dd : DealAt H1 q wide base turn ps := (hd0.mono g0.1).mono off_le
    refine ⟨_, rfl, _, rfl, q, wide, turn, base, ps, rfl, dd, l6, tU, fun H2 g wds vs e2 ng hg hpw wne w64 wok => ?_⟩
    have ga : g ≠ a := g0.2.new ng
    have g2 : Go a H H2 := g0.step e2
    refine ⟨a, g, vs, 7, rfl, g2.2, by rw [off_ne ga]; exact hg, ?_, by rw [← paired_len hpw]; omega, fun H3 g3a ys g3 n3 h3 l7 sub => ⟨g3a, rfl, ⟨_, SqL.of (off_le _ _ h3)⟩, ?_⟩⟩
    · intro z
      rw [z] at hpw
      cases hpw
      exact wne rfl
    have b3 : g3a ≠ b := fun z => by
      have := e2 _ _ (off_le _ _ c0)
      rw [z, off_ne ba, this] at n3; cases n3
    have f3 : Go a H H3 := g2.trans g3
    have c3 : off a H3 b = some (.lst []) := g3.1 _ _ (off_mono e2 _ _ c0)
    have old : ∀ H', Go a H H' → Same (off a H) (off b (off a H')) := fun H' g x o h => off_of (g.1 _ _ h) (fun z => by rw [z, fb] at h; cases h)
    refine forG ys.length (fun i σ H' => Go a H H' ∧ Same (off b (off a H3)) (off b (off a H')) ∧ (∃ cs cl, off a H' b = some (.lst cl) ∧ Paired (CaseV (off b (off a H'))) cs cl ∧ cs.length ≤ 6 * i ∧ ∀ c ∈ cs, GoneOk ps c.1 ∧ IsAd wide c.2) ∧ ∃ u v, σ = [some (.ref a), some (.ref q), some (.ref b), u, v]) ⟨f3, Same.refl _, ⟨[], [], c3, .nil, by simp, by simp⟩, _, _, rfl⟩ ?_ ?_ ?_ ?_
    · rintro i σ H' hi ⟨_, e, _⟩; exact itl_go (SqL.of (off_le _ _ (off_le _ _ (e _ _ (off_of h3 b3))))) hi
    · rintro σ H' ⟨_, e, _⟩; exact itl_stop (SqL.of (off_le _ _ (off_le _ _ (e _ _ (off_of h3 b3))))) rfl
    · rintro i x σ H4 _ hi ⟨g4, e4, ⟨cs, cl, hb4, hp4, lc4, ok4⟩, u, v, rfl⟩ ⟨rfl, hx⟩
      rename Hp => H4
      have hx' := hx _ (SqL.of (off_le _ _ (off_le _ _ (e4 _ _ (off_of h3 b3)))))
      have xv := sub x (List.mem_of_getElem? hx')
      obtain ⟨j, hj, ej⟩ := List.mem_iff_getElem.mp xv
      have lw := paired_len hpw
      obtain ⟨wd, hwd⟩ : ∃ wd, wds[j]? = some wd := ⟨_, List.getElem?_eq_getElem (by omega)⟩
      obtain ⟨v2, hv2, gg, e9, hgg, ngg⟩ := paired_getL hpw hwd
      rw [List.getElem?_eq_getElem hj, ej] at hv2
      cases hv2
      subst e9
      have gwd := wok wd (List.mem_of_getElem? hwd)
      have gga : gg ≠ a := g0.2.new ngg
      have ggb : gg ≠ b := fun z => by rw [z, off_le _ _ c0] at ngg; cases ngg
      have hg4 : off b (off a H4) gg = some (.lst (sL wd)) := e4 _ _ (off_of (g3.1 _ _ (off_of hgg gga)) ggb)
      have d4 : DealAt H4 q wide base turn ps := ((hd0.mono (old _ g4)).mono off_le).mono off_le
      refine ⟨_, rfl, .inl ⟨rfl, _, SqL.of (off_le _ _ hb4)⟩, ?_⟩
      refine ⟨_, rfl, _, rfl, q, wide, turn, base, ps, rfl, d4, d.bb.1, bw, d.w2, w2, d.w1, fun H5 r as e5 nr hr ane a33 aok => ?_⟩
      have ra : r ≠ a := g4.2.new nr
      have g5 : Go a H4 H5 := Go.of e5 g4.2
      refine ⟨a, r, sL as, 6, rfl, g5.2, off_of hr ra, sL_ne ane, by rw [sL_len]; omega, fun H6 r6 zs g6 n6 h6 l6' sub6 => ⟨r6, rfl, ⟨_, SqL.of (off_le _ _ h6)⟩, ?_⟩⟩
      obtain ⟨xs, rfl, hxs⟩ := sub_strs sub6
      have h6' := off_le _ _ h6
      rw [sL_len] at l6'
      refine lcY xs (fun x v H => ∃ t, v = .ref t ∧ H t = some (.tup [.ref gg, .str x])) (by omega) (fun x v H H' e h => by obtain ⟨t, z1, z2⟩ := h; exact ⟨t, z1, e _ _ z2⟩) ?_ ?_ ?_ ?_
      · intro j H' hj e; exact itl_go (SqL.of (e _ _ h6')) (by rw [sL_len]; exact hj)
      · intro H' e; exact itl_stop (SqL.of (e _ _ h6')) (sL_len _)
      · intro j z D x G1 G2 hz nD hD e y Ry Rn hy
        obtain ⟨rfl, hx2⟩ := y
        have hx3 := hx2 _ (SqL.of (off_le _ _ (e _ _ h6')))
        rw [sL, List.getElem?_map, hz] at hx3
        cases hx3
        refine ⟨rfl, _, rfl, _, rfl, le_line (by show (2 : Nat) ≤ 100000; decide), fun t nt => hy _ _ (same_upd nt) ⟨t, rfl, ?_⟩⟩
        have tD : t ≠ D := fun q => by
          cases h : G2 D with
          | none => exact absurd h hD
          | some o => rw [q, h] at nt; cases nt
        rw [off_ne tD, upd_same]
      intro D H7 vs2 nD e7 hD hp7
      have g7 : Go a H4 H7 := (g5.trans g6).step (e7.trans off_le)
      have hb7 := g7.1 _ _ hb4
      have lv : vs2.length = xs.length := (paired_len hp7).symm
      have lcl : cl.length = cs.length := (paired_len hp4).symm
      refine ⟨b, D, cl, vs2, rfl, rfl, off_le _ _ hb7, hD, le_line (by omega), ?_⟩
      have g8 := g4.trans g7
      have keep : Same (off b (off a H7)) (off b (off a (upd H7 b (.lst (cl ++ vs2))))) := fun x o h => by
        have xb : x ≠ b := fun z => by rw [z, off_at] at h; cases h
        rw [off_ne xb] at h ⊢
        have xa : x ≠ a := fun z => by rw [z, off_at] at h; cases h
        rw [off_ne xa] at h ⊢
        rw [upd_ne xb]; exact h
      have k47 : Same (off b (off a H4)) (off b (off a H7)) := off_mono g7.1
      refine ⟨⟨fun x o h => ?_, ?_⟩, e4.trans (k47.trans keep), ⟨cs ++ xs.map (fun x => (wd, x)), cl ++ vs2, by rw [off_ne ba]; exact upd_same, paired_append (paired_mono hp4 fun c v h => (h.mono k47).mono keep) (paired_map_left (g := fun x => (wd, x)) (paired_mono hp7 fun x v h => ?_)), by rw [List.length_append, List.length_map]; omega, fun c hc => ?_⟩, _, _, rfl⟩
      · exact off_le _ _ (((old _ g8).trans keep) x o h)
      · obtain ⟨x, y, z1, z2⟩ := g8.2
        exact ⟨x, y, by rw [upd_ne (Ne.symm ba)]; exact z1, z2⟩
      · obtain ⟨t, z1, z2⟩ := h
        have z3 := off_le _ _ z2
        have tb : t ≠ b := fun z => by rw [z, off_le _ _ hb7] at z3; cases z3
        have ta : t ≠ a := fun z => by
          obtain ⟨_, _, z4, _⟩ := g8.2
          rw [z, z4] at z3; cases z3
        exact ⟨t, gg, z1, keep _ _ (off_of (off_of z3 ta) tb), keep _ _ (k47 _ _ hg4)⟩
      · rcases List.mem_append.mp hc with z | z
        · exact ok4 c z
        · obtain ⟨x, hx, rfl⟩ := List.mem_map.mp z
          exact ⟨⟨gwd.1, gwd.2.1, gwd.2.2⟩, aok x (hxs x hx)⟩
    · rintro σ H4 ⟨g4, e4, ⟨cs, cl, hb4, hp4, lc4, ok4⟩, u, v, rfl⟩
      exact ⟨_, rfl, k H4 b cs cl g4 fb hb4 (paired_mono hp4 fun c v h => h.mono off_le) (by omega) ok4⟩
end
end Cw

/-! CwZ -/
set_option Elab.async false
set_option linter.all false
set_option maxRecDepth 100000
set_option maxHeartbeats 4000000
namespace Cw
open PySem PySem.Spec PyProof.Rows L2
section
variable {P : Program} {w : World} {K : PySem.W.Frag} {mg : Str → Option Value} {base : Heap}
/-! ways rise -/
noncomputable def szOf (its : List Item) (wd : List Str) (a h : Str) : Int := match best (cand its wd a h) its with | none => -1 | some it => (it.st.length : Nat)
theorem chain_at {f : Str → Str} : ∀ {ws : List Str} {i : Nat} {x y : Str}, Chain f ws → ws[i]? = some x → ws[i + 1]? = some y → f x = y ∧ ¬ isEnd y
  | [], _, _, _, _, h, _ => by simp at h
  | [_], i, _, _, _, _, h => by simp at h
  | p :: q :: r, 0, x, y, c, h1, h2 => by
    have e1 : p = x := Option.some.inj h1
    have e2 : q = y := Option.some.inj h2
    subst e1 e2
    exact ⟨c.1, c.2.1⟩
  | p :: q :: r, i + 1, x, y, c, h1, h2 => chain_at (ws := q :: r) (i := i) c.2.2 h1 h2
theorem way_sees {w : Nat} {its : List Item} {wd : List Str} {a h : Str} {ws : List Str} (ok : NetOk w its) (hh : ∃ it ∈ its, sees it h) (ch : Chain (step its wd a) ws) (hr : ∃ r, ws = h :: r) : ∀ x ∈ ws, ∃ it ∈ its, sees it x := by
  intro x hx
  obtain ⟨r, rfl⟩ := hr
  obtain ⟨i, hi⟩ := List.mem_iff_getElem?.mp hx
  cases i with
  | zero => have : h = x := Option.some.inj hi
            rw [← this]; exact hh
  | succ i =>
    obtain ⟨y, hy⟩ : ∃ y, (h :: r)[i]? = some y := ⟨_, List.getElem?_eq_getElem (by have := (List.getElem?_eq_some_iff.mp hi).1; omega)⟩
    obtain ⟨e, hn⟩ := chain_at ch hy hi
    rw [← e] at hn
    obtain ⟨it, h1, _, _, _, h5⟩ := step_on (fun it hi => (ok.ok it hi).way) hn
    exact ⟨it, h1, by rw [← e]; exact sees_next (ok.ok it h1).way h5⟩
theorem sizes_rise {w : Nat} {its : List Item} {wd : List Str} {a : Str} {ws : List Str} (ok : NetOk w its) (shut : ∀ it ∈ its, it.k ≠ 1) (ch : Chain (step its wd a) ws) {i : Nat} {x y : Str} (hx : ws[i]? = some x) (hy : ws[i + 1]? = some y) : szOf its wd a x ≤ szOf its wd a y := by
  obtain ⟨e, hn⟩ := chain_at ch hx hy
  rw [← e] at hn
  obtain ⟨it, it', h1, h2, h3, _⟩ := step_len (fun it hi => (ok.ok it hi).way) shut hn
  rw [e] at h2
  unfold szOf
  rw [h1, h2]
  exact Int.ofNat_le.mpr h3
def sp_law_way_rises (K : PySem.W.Frag) : Sp := fun vs H Q _ => ∃ (p b : Addr) (w : Nat) (its : List Item) (h a : Str) (wd : List Str), vs = [.ref p, .str h, .str a, .ref b] ∧ Asked K H p b w its h a wd ∧ (∀ it ∈ its, it.k ≠ 1) ∧ ∀ H', Same H H' → Q (.bl true) H'
/-! _law_way_rises: 0:_law_tome 1:_law_spot 2:_law_bits 3:_law_some *4:_law_sizes 5:_law_here 6:_law_tag 7:_law_at -/
abbrev n_law_way_rises : List Str := ["_law_tome", "_law_spot", "_law_bits", "_law_some", "_law_sizes", "_law_here", "_law_tag", "_law_at"]
theorem sc_law_way_rises : FnScope n_law_way_rises ["_law_tome", "_law_spot", "_law_bits", "_law_some"] (defScope s_law_way_rises) := ⟨rfl, rfl, rfl, by decide +kernel, rfl, by decide +kernel, by decide +kernel⟩
theorem c_law_way_rises (T : Txt K mg) : Cal P w K mg base 8 (He.ga K "_law_way_rises") ["_law_tome", "_law_spot", "_law_bits", "_law_some"] (sp_law_way_rises K) := by
  refine T.d_law_way_rises.cal sc_law_way_rises (fun _ _ _ _ _ _ us hl => match us, hl with | [_, _, _, _], _ => rfl) (fun vs H Q E h => ?_) (fun cdv A outer s H vs Q E hr h => ?_)
  · obtain ⟨_, _, _, _, _, _, _, rfl, _⟩ := h; rfl
  · obtain ⟨p, b, w, its, h, a, wd, rfl, ⟨hn, ok, hh, had, hb, hw⟩, shut, k⟩ := h
    refine ⟨_, (pss_cons (ps_if (pt_cmpR op_eq (pe_met (pv 0) (im_Gathered_end T) (c_Gathered_end T) (hr.mono (by decide)) (pa_cons (pv 1) (pa_cons (pv 2) (pa_cons (pv 3) pa_nil)))) pe_str (nomark _))
        (pss_one (ps_ret pe_bl)) pss_nil)
      (pss_cons (ps_set (i := 4) sc_law_way_rises.nd rfl (Or.inr rfl) (pe_lst pa_nil))
      (pss_cons (ps_for PassesOwn.never rfl (kpi_list K (pe_met (pv 0) (im_Gathered_way T) (c_Gathered_way T) (hr.mono (by decide)) (pa_cons (pv 1) (pa_cons (pv 2) (pa_cons (pv 3) pa_nil))))) (pg_name (i := 5) sc_law_way_rises.nd rfl (Or.inl rfl))
        (pss_cons (ps_set (i := 6) sc_law_way_rises.nd rfl (Or.inl rfl) (pe_met (pv 0) (im_Gathered_sent_by T) (c_Gathered_sent_by T) (hr.mono (by decide)) (pa_cons (pv 5) (pa_cons (pv 2) (pa_cons (pv 3) pa_nil)))))
        (pss_one (ps_expr (kpe_bm K PySem.F.plainAttrs_list PySem.F.slot_list_append PySem.F.type_list_append mt_append (pv 4) (pa_cons (pe_ifExp (pt_cmpR op_isN (pv 6) pe_non (nomark _)) (pe_un un_neg pe_int) (pe_callB call_len_str (by rfl) T.b_len bt_len (pa_cons (kpe_fld K (pe_getOwn (im_Gathered_getitem T) (c_Gathered_getitem T) T.d_Gathered_getitem.fnIn (hr.mono (by decide)) (pv 0) (pv 6)) rfl) pa_nil))) pa_nil))))))
      (pss_one (ps_ret (pe_callB (kcr_all K rfl) (by rfl) T.b_all bt_all (pa_cons (pe_lc (own := [("_law_at", 7)]) (g := gName 7) (tt := tYes) rfl sc_law_way_rises.nd (pi_range1 (by rfl) T.b_range (pa_cons (pe_op op_sub (pe_callB (kcall_len_seq K) (by rfl) T.b_len bt_len (pa_cons (pv 4) pa_nil)) pe_int) pa_nil)) (blkOk_by (N := n_law_way_rises) (sc := defScope s_law_way_rises) (by decide +kernel)) (fun _ _ _ _ _ => (pg_name (i := 7) sc_law_way_rises.nd rfl (Or.inl rfl))) (fun _ _ _ _ _ => pts_nil) (fun _ _ _ _ _ => (pe_cmpR op_le (pe_ix (kix_list K) (pv 4) (pv 7) (fun _ _ => rfl)) (pe_ix (kix_list K) (pv 4) (pe_op op_add (pv 7) pe_int) (fun _ _ => rfl)) (nomark _)))) pa_nil))))))), ?_⟩
    have nor : ¬ Rings (step its wd a) h := shut_safe ok.uniq (fun it hi => (ok.ok it hi).way) shut wd a h
    refine ⟨_, rfl, net_met hn (by decide +kernel) ⟨_, rfl, _, rfl, _, rfl, p, b, w, its, h, a, wd, rfl, ⟨hn, ok, hh, had, hb, hw⟩, fun H1 t e1 ht => ⟨rfl, _, rfl, ?_⟩⟩⟩
    rw [decide_eq_false (fun z => nor (ht.mp (V.str.inj z)))]
    refine iteF ⟨le_line (by show (0 : Nat) ≤ 100000; decide), fun c nc => ?_⟩
    have e2 : Same H (upd H1 c (.lst [])) := e1.trans (same_upd nc)
    have hc : (upd H1 c (.lst [])) c = some (.lst []) := upd_same
    have fc : H c = none := e1.free nc
    generalize upd H1 c (.lst []) = H2 at e2 hc ⊢
    refine ⟨_, rfl, net_met (hn.mono e2) (by decide +kernel) ⟨_, rfl, _, rfl, _, rfl, p, b, w, its, h, a, wd, rfl, ⟨hn.mono e2, ok, hh, had, e2 _ _ hb, hw⟩, fun H3 l ws e3 hl hr h7 ch => ⟨l, rfl, ⟨_, SqL.of hl⟩, ?_⟩⟩⟩
    obtain ⟨r, er⟩ := hr
    have hc3 := e3 _ _ hc
    have lc : l ≠ c := fun z => by rw [z, hc3, er] at hl; cases hl
    have seen := way_sees ok hh ch ⟨r, er⟩
    refine forG ws.length (fun i σ H' => Same H H' ∧ H' l = some (.lst (sL ws)) ∧ H' c = some (.lst ((ws.take i).map fun x => V.int (szOf its wd a x))) ∧ ∃ u v x, σ = [some (.ref p), some (.str h), some (.str a), some (.ref b), some (.ref c), u, v, x]) ⟨e2.trans e3, hl, hc3, _, _, _, rfl⟩ ?_ ?_ ?_ ?_
    · rintro i σ H' hi ⟨_, h, _⟩; exact itl_go (SqL.of h) (by rw [sL_len]; exact hi)
    · rintro σ H' ⟨_, h, _⟩; exact itl_stop (SqL.of h) (sL_len _)
    · rintro i x σ H4 _ hi ⟨e4, hl4, hc4, u, v, x0, rfl⟩ ⟨rfl, hx⟩
      rename Hp => H4
      obtain ⟨y, hy⟩ : ∃ y, ws[i]? = some y := ⟨_, List.getElem?_eq_getElem hi⟩
      have hx' := hx _ (SqL.of hl4)
      rw [sL, List.getElem?_map, hy] at hx'
      cases hx'
      have sy := seen y (List.mem_of_getElem? hy)
      refine ⟨_, rfl, net_met (hn.mono e4) (by decide +kernel) ⟨_, rfl, _, rfl, _, rfl, p, b, w, its, y, a, wd, rfl, ⟨hn.mono e4, ok, sy, had, e4 _ _ hb, hw⟩, fun H5 v2 e5 hv => ?_⟩⟩
      have fin : ∀ H6, Same H5 H6 → Same H (upd H6 c (.lst ((ws.take i).map (fun x => V.int (szOf its wd a x)) ++ [V.int (szOf its wd a y)]))) ∧ (upd H6 c (.lst ((ws.take i).map (fun x => V.int (szOf its wd a x)) ++ [V.int (szOf its wd a y)]))) l = some (.lst (sL ws)) ∧
          (upd H6 c (.lst ((ws.take i).map (fun x => V.int (szOf its wd a x)) ++ [V.int (szOf its wd a y)]))) c = some (.lst ((ws.take (i + 1)).map fun x => V.int (szOf its wd a x))) := fun H6 e6 =>
        ⟨same_mut (e4.trans (e5.trans e6)) fc, by rw [upd_ne lc]; exact e6 _ _ (e5 _ _ hl4), by rw [upd_same, take_snoc hy, List.map_append]; rfl⟩
      have lk : ((ws.take i).map fun x => V.int (szOf its wd a x)).length < sizeLine := lt_line (by rw [List.length_map, List.length_take]; omega)
      refine ⟨_, rfl, .inl ⟨rfl, _, SqL.of (e5 _ _ hc4)⟩, ?_⟩
      refine ⟨_, rfl, rfl, _, rfl, ?_⟩
      cases eb : best (cand its wd a y) its with
      | none =>
        rw [eb] at hv
        rw [show v2 = .non from hv, decide_eq_true rfl]
        have ez : szOf its wd a y = -1 := by unfold szOf; rw [eb]
        refine iteT ⟨1, rfl, c, _, _, rfl, rfl, e5 _ _ hc4, lk, ?_⟩
        obtain ⟨f1, f2, f3⟩ := fin H5 (Same.refl _)
        rw [ez] at f1 f2 f3
        exact ⟨f1, f2, f3, _, _, _, rfl⟩
      | some it =>
        rw [eb] at hv
        rw [show v2 = .str it.nm from hv, decide_eq_false (fun z => nomatch z)]
        have ez : szOf its wd a y = (it.st.length : Nat) := by unfold szOf; rw [eb]
        have bo := best_ok (cand its wd a y) its
        rw [eb] at bo
        have n5 := hn.mono (e4.trans e5)
        obtain ⟨dx, lA, dA, ips, ops, g1, _⟩ := n5.ob
        refine iteF ⟨_, rfl, _, rfl, p, _, dx, _, rfl, g1, rfl, p, w, its, it, rfl, n5, ok, bo.1, fun H6 q e6 hq => ?_⟩
        refine rd_stretch T hq ⟨it.st, rfl, le_line (by have := ok.sw it bo.1; have := ok.w2; omega), c, _, _, rfl, rfl, e6 _ _ (e5 _ _ hc4), lk, ?_⟩
        obtain ⟨f1, f2, f3⟩ := fin H6 e6
        rw [ez] at f1 f2 f3
        exact ⟨f1, f2, f3, _, _, _, rfl⟩
    · rintro σ H4 ⟨e4, hl4, hc4, u, v, x0, rfl⟩
      rw [List.take_length] at hc4
      have lz : (ws.map fun x => V.int (szOf its wd a x)).length = ws.length := List.length_map ..
      have l1 : 1 ≤ ws.length := by rw [er]; simp
      refine ⟨_, rfl, c, _, rfl, .inl (SqL.of hc4), _, _, rfl, rfl, _, rfl, by rw [lz]; omega, by rw [lz]; omega, ?_⟩
      have ln : (((ws.map fun x => V.int (szOf its wd a x)).length : Int) - 1).toNat = ws.length - 1 := by rw [lz]; omega
      rw [ln]
      refine lcY (List.range (ws.length - 1)) (fun _ v _ => v = .bl true) (by rw [List.length_range]; omega) (fun _ _ _ _ _ h => h) ?_ ?_ ?_ ?_
      · intro j H' hj _; rw [List.length_range] at hj; exact hj
      · intro H' _; rw [List.length_range]; exact Nat.le_refl _
      · intro j d D x G1 G2 hd nD hD e y Ry Rn hy
        obtain ⟨rfl, rfl⟩ := y
        have hj : j < ws.length - 1 := by have := (List.getElem?_eq_some_iff.mp hd).1; rwa [List.length_range] at this
        obtain ⟨z1, hz1⟩ : ∃ z, ws[j]? = some z := ⟨_, List.getElem?_eq_getElem (by omega)⟩
        obtain ⟨z2, hz2⟩ : ∃ z, ws[j + 1]? = some z := ⟨_, List.getElem?_eq_getElem (by omega)⟩
        have hcD := off_le _ _ (e _ _ hc4)
        have m1 : (ws.map fun x => V.int (szOf its wd a x))[j]? = some (.int (szOf its wd a z1)) := by rw [List.getElem?_map, hz1]; rfl
        have m2 : (ws.map fun x => V.int (szOf its wd a x))[j + 1]? = some (.int (szOf its wd a z2)) := by rw [List.getElem?_map, hz2]; rfl
        have ej : (0 : Int) + (j : Nat) = ((j : Nat) : Int) := by omega
        rw [ej]
        refine ⟨rfl, _, rfl, _, rfl, c, _, _, _, rfl, rfl, SqL.of hcD, atI_nat m1, _, rfl, _, rfl, _, _, rfl, rfl, c, _, _, _, rfl, rfl, SqL.of hcD, atI_nat (j := j + 1) m2, _, _, rfl, rfl, hy _ _ (Same.refl _) (congrArg V.bl (decide_eq_true (sizes_rise ok shut ch hz1 hz2)))⟩
      intro D H5 ys nD e hD hp
      have ey := paired_bl (bf := fun _ : Nat => true) hp
      subst ey
      refine ⟨D, _, rfl, SqL.of hD, ?_⟩
      have : ((List.range (ws.length - 1)).map fun _ => true).all id = true := by rw [List.all_map]; exact List.all_eq_true.mpr fun _ _ => rfl
      rw [this]
      exact k _ (e4.trans (e.trans off_le))
end
end Cw

/-! CwZ1 -/
set_option Elab.async false
set_option linter.all false
set_option maxRecDepth 100000
set_option maxHeartbeats 4000000
namespace Cw
open PySem PySem.Spec PyProof.Rows L2
section
variable {P : Program} {w : World} {K : PySem.W.Frag} {mg : Str → Option Value} {base : Heap}
/-! all rise -/
def Like (ps : List (Addr × Th)) (its : List Item) : Prop := ∀ x ∈ ps, ∃ it ∈ its, it.nm = x.2.tg ∧ it.wy = x.2.wy ∧ it.kp = x.2.hm ∧ (x.2.kd = [] → it.k = 0)
theorem Like.wd {ps : List (Addr × Th)} {its : List Item} (l : Like ps its) {wd : List Str} (g : GoneOk ps wd) : WdOk its wd := ⟨g.nd, by have := g.few; omega, fun n hn => by
  obtain ⟨x, hx, hk, e⟩ := g.mem n hn
  obtain ⟨it, hi, e1, _, _, e4⟩ := l x hx
  exact ⟨it, hi, e4 hk, e1.trans e⟩⟩
theorem Like.sees {ps : List (Addr × Th)} {its : List Item} (l : Like ps its) {h : Str} (g : ∃ x ∈ ps, h ∈ keys x.2.wy ∨ h = x.2.hm) : ∃ it ∈ its, sees it h := by
  obtain ⟨x, hx, z⟩ := g
  obtain ⟨it, hi, _, e2, e3, _⟩ := l x hx
  refine ⟨it, hi, ?_⟩
  unfold Cw.sees
  rw [e2, e3]; exact z
structure Cased (K : PySem.W.Frag) (H : Hp) (q p c : Addr) (wide turn : Nat) (base : Str) (ps : List (Addr × Th)) (its : List Item) (cs : List (List Str × Str)) (ys : List V) : Prop where
  deal : DealAt H q wide base turn ps
  dok : DealOk wide base turn (ps.map (·.2))
  net : NetAt K H p wide its
  nok : NetOk wide its
  like : Like ps its
  lst : H c = some (.lst ys)
  pair : Paired (CaseV H) cs ys
  few : cs.length ≤ 42
  ok : ∀ c ∈ cs, GoneOk ps c.1 ∧ IsAd wide c.2
theorem w5_of {wide turn : Nat} {base : Str} {ps : List (Addr × Th)} (d : DealOk wide base turn (ps.map (·.2))) : ∀ r ∈ ps, r.2.wy.length ≤ 5 := fun r hr => by
  obtain ⟨ss, _, s5, _, dl⟩ := d.ss
  have m : r.2 ∈ ps.map (·.2) := List.mem_map.mpr ⟨r, hr, rfl⟩
  have := road_len (dl.rd _ m) (dl.hm _ m)
  omega
def sp_law_all_rise (K : PySem.W.Frag) : Sp := fun vs H Q _ => ∃ (q p c : Addr) (wide turn : Nat) (base : Str) (ps : List (Addr × Th)) (its : List Item) (cs : List (List Str × Str)) (ys : List V), vs = [.ref q, .ref p, .ref c] ∧ Cased K H q p c wide turn base ps its cs ys ∧ (∀ it ∈ its, it.k ≠ 1) ∧
  ∀ H', Same H H' → Q (.bl true) H'
/-! _law_all_rise: 0:_law_deal_here *1:_law_tome 2:_law_cases_here *3:_law_some *4:_law_bits 5:_law_spot -/
abbrev n_law_all_rise : List Str := ["_law_deal_here", "_law_tome", "_law_cases_here", "_law_some", "_law_bits", "_law_spot"]
theorem sc_law_all_rise : FnScope n_law_all_rise ["_law_deal_here", "_law_tome", "_law_cases_here"] (defScope s_law_all_rise) := ⟨rfl, rfl, rfl, by decide +kernel, rfl, by decide +kernel, by decide +kernel⟩
theorem c_law_all_rise (T : Txt K mg) : Cal P w K mg base 9 (He.ga K "_law_all_rise") ["_law_deal_here", "_law_tome", "_law_cases_here"] (sp_law_all_rise K) := by
  refine T.d_law_all_rise.cal sc_law_all_rise (fun _ _ _ _ _ _ us hl => match us, hl with | [_, _, _], _ => rfl) (fun vs H Q E h => ?_) (fun cdv A outer s H vs Q E hr h => ?_)
  · obtain ⟨_, _, _, _, _, _, _, _, _, _, rfl, _⟩ := h; rfl
  · obtain ⟨q, p, c, wide, turn, base, ps, its, cs, ys, rfl, C, shut, k⟩ := h
    have l6 : ps.length ≤ 6 := by have := C.dok.len; rwa [List.length_map] at this
    refine ⟨_, (pss_cons (ps_for PassesOwn.never rfl (kpi_list K (pv 2)) (kpg_tup K (n := 2) rfl (pgs_cons (pg_name (i := 3) sc_law_all_rise.nd rfl (Or.inr rfl)) (pgs_cons (pg_name (i := 4) sc_law_all_rise.nd rfl (Or.inr rfl)) pgs_nil)))
        (pss_one (ps_if (pt_not (pt_val (pe_callB (kcr_all K rfl) (by rfl) T.b_all bt_all (pa_cons (pe_lc (own := [("_law_spot", 5)]) (g := gName 5) (tt := tYes) rfl sc_law_all_rise.nd (kpi_list K (pe_cal (c_law_spots T) (hr.mono (by decide)) (by rfl) T.g_law_spots (pa_cons (pv 0) pa_nil))) (blkOk_by (N := n_law_all_rise) (sc := defScope s_law_all_rise) (by decide +kernel)) (fun _ _ _ _ _ => (pg_name (i := 5) sc_law_all_rise.nd rfl (Or.inl rfl))) (fun _ _ _ _ _ => pts_nil) (fun _ _ _ _ _ => (pe_cal (c_law_way_rises T) (hr.mono (by decide)) (by rfl) T.g_law_way_rises (pa_cons (pv 1) (pa_cons (pv 5) (pa_cons (pv 4) (pa_cons (pv 3) pa_nil))))))) pa_nil))))
          (pss_one (ps_ret pe_bl)) pss_nil)))
      (pss_one (ps_ret pe_bl))), ?_⟩
    refine ⟨_, rfl, c, rfl, ⟨_, SqL.of C.lst⟩, ?_⟩
    refine forG ys.length (fun i σ H' => Same H H' ∧ ∃ u v w, σ = [some (.ref q), some (.ref p), some (.ref c), u, v, w]) ⟨Same.refl _, _, _, _, rfl⟩ ?_ ?_ ?_ ?_
    · rintro i σ H' hi ⟨e, _⟩; exact itl_go (SqL.of (e _ _ C.lst)) hi
    · rintro σ H' ⟨e, _⟩; exact itl_stop (SqL.of (e _ _ C.lst)) rfl
    · rintro i x σ H1 _ hi ⟨e1, u, v, w, rfl⟩ ⟨rfl, hx⟩
      rename Hp => H1
      have hx' := hx _ (SqL.of (e1 _ _ C.lst))
      have lc := paired_len C.pair
      obtain ⟨cc, hcc⟩ : ∃ cc, cs[i]? = some cc := ⟨_, List.getElem?_eq_getElem (by omega)⟩
      obtain ⟨v2, hv2, t, g, rfl, ht, hg⟩ := paired_getL C.pair hcc
      rw [hx'] at hv2
      cases hv2
      obtain ⟨ok1, ok2⟩ := C.ok cc (List.mem_of_getElem? hcc)
      refine ⟨_, _, rfl, .inl (.inl (e1 _ _ ht)), rfl, _, _, rfl, _, _, rfl, rfl, ?_⟩
      refine ⟨_, rfl, q, wide, turn, base, ps, rfl, C.deal.mono e1, l6, w5_of C.dok, fun H2 r hs e2 nr hr l36 mh => ⟨r, rfl, ⟨_, SqL.of hr⟩, ?_⟩⟩
      have s2 := e1.trans e2
      refine lcY hs (fun _ v _ => v = .bl true) (by omega) (fun _ _ _ _ _ h => h) ?_ ?_ ?_ ?_
      · intro j H' hj e; exact itl_go (SqL.of (e _ _ hr)) (by rw [sL_len]; exact hj)
      · intro H' e; exact itl_stop (SqL.of (e _ _ hr)) (sL_len _)
      · intro j h D x G1 G2 hh nD hD e y Ry Rn hy
        obtain ⟨rfl, hx2⟩ := y
        have hx3 := hx2 _ (SqL.of (off_le _ _ (e _ _ hr)))
        rw [sL, List.getElem?_map, hh] at hx3
        cases hx3
        have up : Same H G2 := s2.trans (e.trans off_le)
        exact ⟨rfl, _, rfl, _, rfl, _, rfl, _, rfl, p, g, wide, its, h, cc.2, cc.1, rfl, ⟨C.net.mono up, C.nok, C.like.sees ((mh h).mp (List.mem_of_getElem? hh)), ok2, up _ _ hg, C.like.wd ok1⟩, shut, fun H5 e5 => hy _ _ e5 rfl⟩
      intro D H3 zs nD e3 hD hp
      have ey := paired_bl (bf := fun _ : Str => true) hp
      subst ey
      refine ⟨D, _, rfl, SqL.of hD, _, rfl, ?_⟩
      have : (hs.map fun _ => true).all id = true := by rw [List.all_map]; exact List.all_eq_true.mpr fun _ _ => rfl
      rw [this]
      exact iteF ⟨s2.trans (e3.trans off_le), _, _, _, rfl⟩
    · rintro σ H1 ⟨e1, u, v, w, rfl⟩
      exact k _ e1
end
end Cw

/-! CwZ2 -/
set_option Elab.async false
set_option linter.all false
set_option maxRecDepth 100000
set_option maxHeartbeats 4000000
namespace Cw
open PySem PySem.Spec PyProof.Rows L2
section
variable {P : Program} {w : World} {K : PySem.W.Frag} {mg : Str → Option Value} {base : Heap}
/-! what goes round -/
def TripV (H : Hp) (c : List Str × Str × Str) (v : V) : Prop := ∃ t g, v = .ref t ∧ H t = some (.tup [.ref g, .str c.2.1, .str c.2.2]) ∧ H g = some (.lst (sL c.1))
theorem TripV.mono {H H' : Hp} {c : List Str × Str × Str} {v : V} (h : TripV H c v) (e : Same H H') : TripV H' c v := by
  obtain ⟨t, g, h1, h2, h3⟩ := h
  exact ⟨t, g, h1, e _ _ h2, e _ _ h3⟩
open Classical in
noncomputable def rgB (its : List Item) (wd : List Str) (a h : Str) : Bool := decide (Rings (step its wd a) h)
open Classical in
theorem rgB_yes {its : List Item} {wd : List Str} {a h : Str} (r : Rings (step its wd a) h) : rgB its wd a h = true := by unfold rgB; exact decide_eq_true r
open Classical in
theorem rgB_no {its : List Item} {wd : List Str} {a h : Str} (r : ¬ Rings (step its wd a) h) : rgB its wd a h = false := by unfold rgB; exact decide_eq_false r
open Classical in
theorem rgB_iff {its : List Item} {wd : List Str} {a h : Str} : rgB its wd a h = true ↔ Rings (step its wd a) h := by unfold rgB; exact decide_eq_true_iff
def Round (ps : List (Addr × Th)) (its : List Item) (cs : List (List Str × Str)) (c : List Str × Str × Str) : Prop := (c.1, c.2.1) ∈ cs ∧ (∃ x ∈ ps, c.2.2 ∈ keys x.2.wy ∨ c.2.2 = x.2.hm) ∧ Rings (step its c.1 c.2.1) c.2.2
def sp_law_told_round (K : PySem.W.Frag) : Sp := fun vs H Q _ => ∃ (q p c : Addr) (wide turn : Nat) (base : Str) (ps : List (Addr × Th)) (its : List Item) (cs : List (List Str × Str)) (ys : List V), vs = [.ref q, .ref p, .ref c] ∧ Cased K H q p c wide turn base ps its cs ys ∧
  ∀ H' r ts zs, Same H H' → H r = none → H' r = some (.lst zs) → Paired (TripV H') ts zs → ts.length ≤ 1512 → (∀ c, c ∈ ts ↔ Round ps its cs c) → Q (.ref r) H'
/-! _law_told_round: 0:_law_deal_here *1:_law_tome 2:_law_cases_here 3:_law_found *4:_law_some *5:_law_bits 6:_law_spot -/
abbrev n_law_told_round : List Str := ["_law_deal_here", "_law_tome", "_law_cases_here", "_law_found", "_law_some", "_law_bits", "_law_spot"]
theorem sc_law_told_round : FnScope n_law_told_round ["_law_deal_here", "_law_tome", "_law_cases_here"] (defScope s_law_told_round) := ⟨rfl, rfl, rfl, by decide +kernel, rfl, by decide +kernel, by decide +kernel⟩
theorem c_law_told_round (T : Txt K mg) : Cal P w K mg base 8 (He.ga K "_law_told_round") ["_law_deal_here", "_law_tome", "_law_cases_here"] (sp_law_told_round K) := by
  refine T.d_law_told_round.cal sc_law_told_round (fun _ _ _ _ _ _ us hl => match us, hl with | [_, _, _], _ => rfl) (fun vs H Q E h => ?_) (fun cdv A outer s H vs Q E hr h => ?_)
  · obtain ⟨_, _, _, _, _, _, _, _, _, _, rfl, _⟩ := h; rfl
  · obtain ⟨q, p, c, wide, turn, base, ps, its, cs, ys, rfl, C, k⟩ := h
    have l6 : ps.length ≤ 6 := by have := C.dok.len; rwa [List.length_map] at this
    have lc := paired_len C.pair
    have l42 := C.few
    refine ⟨_, (pss_cons (ps_set (i := 3) sc_law_told_round.nd rfl (Or.inl rfl) (pe_lst pa_nil))
      (pss_cons (ps_for PassesOwn.never rfl (kpi_list K (pv 2)) (kpg_tup K (n := 2) rfl (pgs_cons (pg_name (i := 4) sc_law_told_round.nd rfl (Or.inr rfl)) (pgs_cons (pg_name (i := 5) sc_law_told_round.nd rfl (Or.inr rfl)) pgs_nil)))
        (pss_one (ps_expr (kpe_bm K PySem.F.plainAttrs_list PySem.F.slot_list_extend PySem.F.type_list_extend mt_extend (pv 3) (pa_cons (pe_lc (own := [("_law_spot", 6)]) (g := gName 6) rfl sc_law_told_round.nd (kpi_list K (pe_cal (c_law_spots T) (hr.mono (by decide)) (by rfl) T.g_law_spots (pa_cons (pv 0) pa_nil))) (blkOk_by (N := n_law_told_round) (sc := defScope s_law_told_round) (by decide +kernel)) (fun _ _ _ _ _ => (pg_name (i := 6) sc_law_told_round.nd rfl (Or.inl rfl))) (fun _ _ _ _ _ => (pts_one (pt_cmpR op_eq (pe_met (pv 1) (im_Gathered_end T) (c_Gathered_end T) (hr.mono (by decide)) (pa_cons (pv 6) (pa_cons (pv 5) (pa_cons (pv 4) pa_nil)))) pe_str (nomark _)))) (fun _ _ _ _ _ => (pe_tup (pa_cons (pv 4) (pa_cons (pv 5) (pa_cons (pv 6) pa_nil)))))) pa_nil)))))
      (pss_one (ps_ret (pv 3))))), ?_⟩
    refine ⟨le_line (by show (0 : Nat) ≤ 100000; decide), fun b nb => ?_⟩
    have e0 : Same H (upd H b (.lst [])) := same_upd nb
    refine ⟨_, rfl, c, rfl, ⟨_, SqL.of (e0 _ _ C.lst)⟩, ?_⟩
    refine forG ys.length (fun i σ H' => Same H H' ∧ (∃ ts zs, H' b = some (.lst zs) ∧ Paired (TripV (off b H')) ts zs ∧ ts.length ≤ 36 * i ∧ ∀ c, c ∈ ts ↔ Round ps its (cs.take i) c) ∧ ∃ u v w, σ = [some (.ref q), some (.ref p), some (.ref c), some (.ref b), u, v, w]) ⟨e0, ⟨[], [], upd_same, .nil, by simp, by simp [Round]⟩, _, _, _, rfl⟩ ?_ ?_ ?_ ?_
    · rintro i σ H' hi ⟨e, _⟩; exact itl_go (SqL.of (e _ _ C.lst)) hi
    · rintro σ H' ⟨e, _⟩; exact itl_stop (SqL.of (e _ _ C.lst)) rfl
    · rintro i x σ H1 _ hi ⟨e1, ⟨ts, zs, hb, hp, lt, mt⟩, u, v, w, rfl⟩ ⟨rfl, hx⟩
      rename Hp => H1
      have hx' := hx _ (SqL.of (e1 _ _ C.lst))
      obtain ⟨cc, hcc⟩ : ∃ cc, cs[i]? = some cc := ⟨_, List.getElem?_eq_getElem (by omega)⟩
      obtain ⟨v2, hv2, t, g, rfl, ht, hg⟩ := paired_getL C.pair hcc
      rw [hx'] at hv2
      cases hv2
      obtain ⟨ok1, ok2⟩ := C.ok cc (List.mem_of_getElem? hcc)
      refine ⟨_, _, rfl, .inl (.inl (e1 _ _ ht)), rfl, _, _, rfl, _, _, rfl, rfl, ?_⟩
      refine ⟨_, rfl, .inl ⟨rfl, _, SqL.of hb⟩, ?_⟩
      refine ⟨_, rfl, q, wide, turn, base, ps, rfl, C.deal.mono e1, l6, w5_of C.dok, fun H2 r hs e2 nr hr l36 mh => ⟨r, rfl, ⟨_, SqL.of hr⟩, ?_⟩⟩
      have s2 := e1.trans e2
      refine lcG hs (rgB its cc.1 cc.2) (fun h v G => ∃ t, v = .ref t ∧ G t = some (.tup [.ref g, .str cc.2, .str h])) (by omega) (fun h v G G' e z => by obtain ⟨t, z1, z2⟩ := z; exact ⟨t, z1, e _ _ z2⟩) ?_ ?_ ?_ ?_
      · intro j H' hj e; exact itl_go (SqL.of (e _ _ hr)) (by rw [sL_len]; exact hj)
      · intro H' e; exact itl_stop (SqL.of (e _ _ hr)) (sL_len _)
      · intro j h D x G1 G2 hh nD hD e y Ry Rn hy hno
        obtain ⟨rfl, hx2⟩ := y
        have hx3 := hx2 _ (SqL.of (off_le _ _ (e _ _ hr)))
        rw [sL, List.getElem?_map, hh] at hx3
        cases hx3
        have up : Same H G2 := s2.trans (e.trans off_le)
        refine ⟨rfl, _, rfl, net_met (C.net.mono up) (by decide +kernel) ⟨_, rfl, _, rfl, _, rfl, p, g, wide, its, h, cc.2, cc.1, rfl, ⟨C.net.mono up, C.nok, C.like.sees ((mh h).mp (List.mem_of_getElem? hh)), ok2, up _ _ hg, C.like.wd ok1⟩, fun H5 t5 e5 ht5 => ⟨rfl, _, rfl, ?_⟩⟩⟩
        by_cases hR : Rings (step its cc.1 cc.2) h
        · rw [ht5.mpr hR, decide_eq_true rfl]
          refine iteT ⟨_, rfl, _, rfl, _, rfl, le_line (by show (3 : Nat) ≤ 100000; decide), fun t nt => hy (rgB_yes hR) _ _ (e5.trans (same_upd nt)) ⟨t, rfl, ?_⟩⟩
          have tD : t ≠ D := fun q => by
            cases h : G2 D with
            | none => exact absurd h hD
            | some o => rw [q, e5 _ _ h] at nt; cases nt
          rw [off_ne tD, upd_same]
        · rw [decide_eq_false (fun z => hR (ht5.mp (V.str.inj z)))]
          exact iteF (hno (rgB_no hR) _ e5)
      intro D H3 z3 nD e3 hD hp3
      have s3 : Same H1 H3 := e2.trans (e3.trans off_le)
      have lz := paired_len hp3
      have lzz := paired_len hp
      have lf := List.length_filter_le (rgB its cc.1 cc.2) hs
      have hb3 := s3 _ _ hb
      refine ⟨b, D, zs, z3, rfl, rfl, hb3, hD, le_line (by omega), ?_⟩
      have gb : g ≠ b := fun z => by rw [z, nb] at hg; cases hg
      have k13 : Same (off b H1) (off b (upd H3 b (.lst (zs ++ z3)))) := by rw [off_upd]; exact off_mono s3
      refine ⟨same_mut (e1.trans s3) nb, ⟨ts ++ (hs.filter (rgB its cc.1 cc.2)).map (fun h => (cc.1, cc.2, h)), zs ++ z3, upd_same, paired_append (paired_mono hp fun c v h => h.mono k13) (paired_map_left (g := fun h => (cc.1, cc.2, h)) (paired_mono hp3 fun h v z => ?_)), by rw [List.length_append, List.length_map]; omega, fun c => ?_⟩, _, _, _, rfl⟩
      · obtain ⟨t, z1, z2⟩ := z
        have z4 := off_le _ _ z2
        have tb : t ≠ b := fun z => by rw [z, hb3] at z4; cases z4
        exact ⟨t, g, z1, by rw [off_ne tb, upd_ne tb]; exact z4, by rw [off_ne gb, upd_ne gb]; exact (e1.trans s3) _ _ hg⟩
      · rw [List.mem_append, mt c, List.mem_map, take_snoc hcc]
        unfold Round
        constructor
        · rintro (⟨y1, y2, y3⟩ | ⟨h, hh, rfl⟩)
          · exact ⟨List.mem_append_left _ y1, y2, y3⟩
          · obtain ⟨m1, m2⟩ := List.mem_filter.mp hh
            exact ⟨List.mem_append_right _ (by simp), (mh h).mp m1, rgB_iff.mp m2⟩
        · rintro ⟨y1, y2, y3⟩
          rcases List.mem_append.mp y1 with y | y
          · exact .inl ⟨y, y2, y3⟩
          · have e := List.mem_singleton.mp y
            obtain ⟨c1, c2, c3⟩ := c
            dsimp only at e y2 y3
            have e1 : c1 = cc.1 := congrArg (·.1) e
            have e2 : c2 = cc.2 := congrArg (·.2) e
            subst e1 e2
            exact .inr ⟨c3, List.mem_filter.mpr ⟨(mh c3).mpr y2, rgB_iff.mpr y3⟩, rfl⟩
    · rintro σ H1 ⟨e1, ⟨ts, zs, hb, hp, lt, mt⟩, u, v, w, rfl⟩
      have : cs.take ys.length = cs := List.take_of_length_le (by omega)
      rw [this] at mt
      exact ⟨_, rfl, k H1 b ts zs e1 nb hb (paired_mono hp fun c v h => h.mono off_le) (by omega) mt⟩
end
end Cw

/-! CwOwnE -/
set_option Elab.async false
set_option linter.all false
set_option maxRecDepth 100000
/-! Own rules: == of dicts whose values have an == of their own. -/
namespace Cw
open PySem PySem.Calls PyProof.Rows PyProof.V PySem.Spec
section
variable {prog : Program} {w : World} {K : Type} [DecidableEq K] {knd : KeyKind prog w K} {A : Around} {E : Value → Shared → Prop} {s : Shared}
theorem samePairsI {nm : String} {a b : Addr} {ka kb : List (K × Value)} {oa ob : Obj} {I : Shared → Prop} {Q : Bool → Shared → Prop} (ha : (a == sysModules) = false) (hb : (b == sysModules) = false) (hl : ka.length = kb.length)
    (hI : ∀ s', I s' → s'.heap.get? a = some oa ∧ s'.heap.get? b = some ob ∧ s'.heap.DictOf knd a ka ∧ s'.heap.DictOf knd b kb) (i0 : I s)
    (turn : ∀ s' k v, (k, v) ∈ ka → I s' → ∃ y, valueAt kb k = some y ∧ wpAny (model prog w) A (eqBool v y) (fun r s2 => r = true ∧ I s2) E s') (h : ∀ s', I s' → Q true s') :
    wpAny (model prog w) A (Builtin.Dict.samePairs nm a b) Q E s := by
  obtain ⟨ga, gb, da, db⟩ := hI s i0
  obtain ⟨oa', es, ep, hoa, _, hda, hka, hpa, _⟩ := da
  obtain ⟨ob', es', ep', hob, _, hdb, hkb, hpb, _⟩ := db
  have hla : ka.length = es.size := by rw [← hpa.length]; exact Array.length_toList
  have hlb : kb.length = es'.size := by rw [← hpb.length]; exact Array.length_toList
  have hsz : es.size = es'.size := by omega
  unfold Builtin.Dict.samePairs Builtin.Dict.showsAll
  rw [if_neg (show ¬ (a == sysModules) = true by rw [ha]; exact Bool.false_ne_true), if_neg (show ¬ (b == sysModules) = true by rw [hb]; exact Bool.false_ne_true)]
  refine wpAny_bind (wpAny_pure (wpAny_bind (wpAny_pure ?_)))
  refine wpAny_bind (wpAny_dictEntries hoa hda ?_)
  dsimp only
  refine wpAny_bind (wpAny_dictEntries hob hdb ?_)
  rw [if_neg (by rw [hsz]; simp)]
  refine wpAny_bind (wpAny_dictEpoch hoa hda ?_)
  refine wpAny_bind ?_
  rw [Std.Legacy.Range.forIn_eq_forIn_range']
  simp only [Std.Legacy.Range.size, Nat.sub_zero, Nat.add_sub_cancel, Nat.div_one]
  refine wpAny_forIn_list _
    (fun rest q s' => I s' ∧ q = (none, ()) ∧ ∃ i, rest = List.range' i (es.size - i) ∧ i ≤ es.size)
    _ ?_ ?_ _ _ ⟨i0, rfl, 0, by simp, Nat.zero_le _⟩
  · rintro x rest q s' ⟨is, rfl, i, hr, hi⟩
    obtain ⟨ga', gb', da', db'⟩ := hI s' is
    obtain ⟨oa2, es2, ep2, hoa2, _, hda2, hka2, hpa2, _⟩ := da'
    obtain ⟨ob2, es2', ep2', hob2, _, hdb2, hkb2, hpb2, _⟩ := db'
    have eoa : oa2 = oa' := by
      have h1 := hoa2.symm.trans ga'
      have h2 := hoa.symm.trans ga
      exact (Option.some.inj h1).trans (Option.some.inj h2).symm
    subst eoa
    have eob : ob2 = ob' := by
      have h1 := hob2.symm.trans gb'
      have h2 := hob.symm.trans gb
      exact (Option.some.inj h1).trans (Option.some.inj h2).symm
    subst eob
    have ed := hda2.symm.trans hda
    cases ed
    have ed := hdb2.symm.trans hdb
    cases ed
    have hlt : i < es.size := by
      rcases Nat.lt_or_ge i es.size with h | h
      · exact h
      · rw [Nat.sub_eq_zero_of_le h] at hr; simp at hr
    obtain ⟨rfl, hrest⟩ : x = i ∧ rest = List.range' (i + 1) (es.size - (i + 1)) := by
      have e : es.size - i = (es.size - (i + 1)) + 1 := by omega
      rw [e, List.range'_succ] at hr
      injection hr with h1 h2
      exact ⟨h1, h2⟩
    refine wpAny_bind (wpAny_dictEntries hoa2 hda ?_)
    rw [Array.getElem?_eq_getElem hlt]
    have hlt' : x < ka.length := by rw [hla]; exact hlt
    obtain ⟨k, v, hkv⟩ : ∃ k v, ka[x] = (k, v) := ⟨_, _, rfl⟩
    obtain ⟨hkey, hval⟩ := hpa.get? (i := x) (e := es[x]) (k := k) (v := v) (by rw [Array.getElem?_toList]; exact Array.getElem?_eq_getElem hlt) (by rw [List.getElem?_eq_getElem hlt', hkv])
    obtain ⟨k', hk', hh⟩ := hka2 es[x] (Array.getElem_mem hlt)
    have ekk : k' = k := knd.inj _ _ _ hk' hkey
    rw [ekk] at hh
    obtain ⟨y, hy, he⟩ := turn s' k v (by rw [← hkv]; exact List.getElem_mem hlt') is
    show wpAny _ _ (holding [es[x].key, es[x].val] _ >>= _) _ _ _
    rw [hh]
    refine wpAny_bind (wpAny_holding (wpAny_bind (wpAny_dictFind_of hkey hob2 hdb hkb2 ?_)))
    have hfind : findBy knd.is es' k = valueAt kb k := by
      rw [← hpb.find k]
      clear hlb hpb hkb hkb2 hpb2 hdb hdb2 hsz
      obtain ⟨l⟩ := es'
      simp [findBy]
    cases hj : es'.findIdx? fun e => knd.is k e.key with
    | none =>
      have hn : valueAt kb k = none := by rw [← hfind, findBy_of_findIdx?, hj]
      rw [hn] at hy; exact nomatch hy
    | some j =>
      obtain ⟨hjlt, _, _⟩ := Array.findIdx?_eq_some_iff_getElem.mp hj
      have hv' : valueAt kb k = some es'[j].val := by
        rw [← hfind, findBy_of_findIdx?, hj]
        simp [Array.getElem?_eq_getElem hjlt]
      refine wpAny_bind (wpAny_dictEntries hob2 hdb ?_)
      rw [Array.getElem?_eq_getElem hjlt]
      have ey : es'[j].val = y := Option.some.inj (hv'.symm.trans hy)
      rw [← ey, ← hval] at he
      refine wpAny_holding (wpAny_mono he (fun r s2 hr2 => ?_) fun _ _ e => e)
      obtain ⟨rfl, is2⟩ := hr2
      obtain ⟨ga2, gb2, _, _⟩ := hI s2 is2
      show wpAny _ _ (if (!true) = true then _ else _) _ _ _
      rw [if_neg (by decide)]
      refine wpAny_bind (wpAny_dictEpoch (ga2.trans (ga'.symm.trans hoa2)) hda ?_)
      rw [if_neg (by simp)]
      exact wpAny_pure ⟨is2, rfl, x + 1, hrest, hlt⟩
  · rintro q s' ⟨is, rfl, i, hr, hi⟩
    exact wpAny_pure (h s' is)
theorem rcI_dicts {a b : Addr} {ka kb : List (K × Value)} {oa ob : Obj} {I : Shared → Prop} {Q : Value → Shared → Prop} (ha : (a == sysModules) = false) (hb : (b == sysModules) = false) (hl : ka.length = kb.length) (hu : A.units < cLine)
    (hI : ∀ s', I s' → s'.heap.get? a = some oa ∧ s'.heap.get? b = some ob ∧ s'.heap.DictOf knd a ka ∧ s'.heap.DictOf knd b kb) (i0 : I s)
    (turn : ∀ s' k v, (k, v) ∈ ka → I s' → ∃ y, valueAt kb k = some y ∧ wpAny (model prog w) A.in1 (eqBool v y) (fun r s2 => r = true ∧ I s2) E s') (h : ∀ s', I s' → Q (.bool true) s') :
    wpAny (model prog w) A (richCompare .Eq (.ref a) (.ref b)) Q E s := by
  obtain ⟨ga, gb, da, db⟩ := hI s i0
  refine wpAny_richCompare_same_room (op := .Eq) da.typeIs db.typeIs PySem.F.slot_dict_eq (wpAny_call_entry PySem.F.slot_dict_eq da.typeIs PySem.F.entry_dict_eq ?_ (PySem.F.args_dict_eq_2 _ _)) hu
  show wpAny _ _ (Builtin.Dict.dictSlotArgs "__eq__" ⟨[.ref a, .ref b], []⟩ >>= _) _ _ s
  refine wpAny_bind ?_
  unfold Builtin.Dict.dictSlotArgs
  refine wpAny_bind (wpAny_notOrdered_dict da.typeIs ?_)
  show wpAny _ _ (pure (Value.ref a, Value.ref b)) _ _ s
  refine wpAny_pure ?_
  refine wpAny_bind (wpAny_isInstance (T := "dict") db.typeIs PySem.F.sub_dict_dict ?_)
  simp only [Bool.not_true, Bool.false_eq_true, if_false]
  refine wpAny_bind (wpAny_pure (wpAny_bind (wpAny_pure ?_)))
  refine wpAny_bind (samePairsI ha hb hl hI i0 turn fun s' is => ?_)
  · refine wpAny_pure ⟨_, rfl, ?_, ?_⟩
    · exact fun x => nomatch x
    · exact h s' is
end
end Cw

/-! CwOwnF -/
set_option Elab.async false
set_option linter.all false
set_option maxRecDepth 100000
set_option maxHeartbeats 4000000
/-! Own rules: == of dicts as a relation of values that other values' == may lean on. -/
namespace Cw
open PySem PySem.Calls PySem.Spec PyProof.Rows L2
def DDict (D : Eqv) : Eqv := fun x y H => ∃ a b ka kb, x = .ref a ∧ y = .ref b ∧ H a = some (.dK ka) ∧ H b = some (.dK kb) ∧ ka.length = kb.length ∧
  ∀ k v, (k, v) ∈ ka → ∃ u, valV kb k = some u ∧ D v u (off a (off b H))
theorem mon_dict {D : Eqv} (hD : Mon D) : Mon (DDict D) := fun x y H H' e d => by
  obtain ⟨a, b, ka, kb, hx, hy, ha, hb, hl, ht⟩ := d
  refine ⟨a, b, ka, kb, hx, hy, e _ _ ha, e _ _ hb, hl, fun k v m => ?_⟩
  obtain ⟨u, h1, h2⟩ := ht k v m
  exact ⟨u, h1, hD _ _ _ _ (off_mono (off_mono e)) h2⟩
theorem kv_mem {ka : List (Key × V)} {va : List (Key × Value)} (kv : KV ka va) {k : Key} {v : Value} (h : (k, v) ∈ va) : ∃ v', (k, v') ∈ ka ∧ RelV v' v := by
  induction kv with
  | nil => simp at h
  | @cons p q r t hpq _ ih =>
    rcases List.mem_cons.mp h with e | e
    · subst e
      refine ⟨p.2, ?_, hpq.2⟩
      rw [show p = (k, p.2) from Prod.ext hpq.1 rfl]
      exact List.mem_cons_self ..
    · obtain ⟨v', h1, h2⟩ := ih e
      exact ⟨v', List.mem_cons_of_mem _ h1, h2⟩
section
variable {X : Cx} {n : Nat} {D : Eqv} {A : Around} {pins : List (Addr × Obj)} {s : Shared} {σ : L2.St} {H1 G : Hp} {a b : Addr} {oa ob : Obj} {ka kb : List (Key × V)}
theorem dict_core (hD : Mon D) (h : EqG X n D) (sb : Sub X (n + 1) A) (I : Inv X pins σ H1 s) (ha : H1 a = some (.frz oa (.dK ka))) (hb : H1 b = some (.frz ob (.dK kb))) (hl : ka.length = kb.length) (e : Ext G H1)
    (ht : ∀ k v, (k, v) ∈ ka → ∃ u, valV kb k = some u ∧ D v u G) :
    wpAny (model X.prog X.w) A (richCompare .Eq (.ref a) (.ref b)) (fun r s' => r = .bool true ∧ ∃ H', Inv X pins σ H' s' ∧ Ext H1 H') X.xe s := by
  obtain ⟨ga, za, sa, va, kva, da⟩ := I.hok a _ ha
  obtain ⟨gb, zb, sb', vb, kvb, db⟩ := I.hok b _ hb
  refine rcI_dicts (knd := mixKind X.prog X.w) (ka := va) (kb := vb) (oa := oa) (ob := ob) (I := LoopI X pins σ H1) sa sb' (by rw [← Paired.length kva, ← Paired.length kvb]; exact hl) sb.room.units0 ?_ ⟨H1, I, Ext.rfl'⟩ ?_ fun s' q => ⟨rfl, q⟩
  · rintro s' ⟨H', I', e'⟩
    have ga' := (I'.hok a _ (e' _ _ ha)).1
    have gb' := (I'.hok b _ (e' _ _ hb)).1
    exact ⟨ga', gb', da.at fun o z => by rw [ga] at z; cases z; exact ga', db.at fun o z => by rw [gb] at z; cases z; exact gb'⟩
  · rintro s' k v hm ⟨H', I', e'⟩
    obtain ⟨v', hm', rv⟩ := kv_mem kva hm
    obtain ⟨u, hu, hd⟩ := ht k v' hm'
    have r := KV.val kvb k
    rw [hu] at r
    cases ew : valueAt vb k with
    | none => rw [ew] at r; exact r.elim
    | some y =>
      rw [ew] at r
      refine ⟨y, rfl, wpAny_mono (h A.in1 pins s' σ H' v' u v y sb.in1 I' rv r (hD _ _ _ _ (e.trans e') hd)) (fun r s2 q => ?_) fun _ _ x => x⟩
      obtain ⟨hr, H2, I2, e2⟩ := q
      exact ⟨hr, H2, I2, e'.trans e2⟩
theorem rcG_dict (hD : Mon D) (h : EqG X n D) : RcG X (n + 1) (DDict D) := by
  intro A pins s σ H x y u v sb I rx ry d
  obtain ⟨a, b, ka, kb, rfl, rfl, ha, hb, hl, ht⟩ := d
  cases rx
  cases ry
  obtain ⟨oa, Ia⟩ := I.lock ha trivial
  by_cases hab : a = b
  · subst hab
    have ekb : kb = ka := by rw [ha] at hb; exact (HO.dK.inj (Option.some.inj hb)).symm
    subst ekb
    have e0 : Ext (off a (off a H)) (upd H a (.frz oa (.dK kb))) := fun c o h => by
      by_cases z : c = a
      · rw [z, off_at] at h; cases h
      · rw [off_ne z, off_ne z] at h; rw [upd_ne z]; exact h
    refine wpAny_mono (dict_core hD h sb Ia upd_same upd_same rfl e0 ht) (fun r s' q => ?_) fun _ _ x => x
    obtain ⟨hr, H', I', e⟩ := q
    exact ⟨hr, _, I'.unlock (e _ _ upd_same) (I.nofrz ha trivial), unlock ha e⟩
  · have hb1 : (upd H a (.frz oa (.dK ka))) b = some (.dK kb) := by rw [upd_ne (fun z => hab z.symm)]; exact hb
    obtain ⟨ob, Ib⟩ := Ia.lock hb1 trivial
    have e0 : Ext (off a (off b H)) (upd (upd H a (.frz oa (.dK ka))) b (.frz ob (.dK kb))) := fun c o h => by
      by_cases z : c = a
      · rw [z, off_at] at h; cases h
      · rw [off_ne z] at h
        by_cases z2 : c = b
        · rw [z2, off_at] at h; cases h
        · rw [off_ne z2] at h; rw [upd_ne z2, upd_ne z]; exact h
    have ha2 : (upd (upd H a (.frz oa (.dK ka))) b (.frz ob (.dK kb))) a = some (.frz oa (.dK ka)) := by rw [upd_ne hab]; exact upd_same
    refine wpAny_mono (dict_core hD h sb Ib ha2 upd_same hl e0 ht) (fun r s' q => ?_) fun _ _ x => x
    obtain ⟨hr, H', I', e⟩ := q
    have I2 := I'.unlock (e _ _ upd_same) (I.nofrz hb trivial)
    have e2 : Same (upd H a (.frz oa (.dK ka))) (upd H' b (.dK kb)) := unlock hb1 e
    exact ⟨hr, _, I2.unlock (e2 _ _ upd_same) (I.nofrz ha trivial), unlock ha e2⟩
theorem eqG_dict (hD : Mon D) (h : EqG X n D) : EqG X (n + 1) (DDict D) := (rcG_dict hD h).eqG fun _ _ _ d => let ⟨a, b, _, _, hx, hy, _⟩ := d; ⟨a, b, hx, hy⟩
end
/-- flat, or a dict of flat values, or a list of them -/
def DVal : Eqv := fun x y H => DFlat x y H ∨ DDict DFlat x y H ∨ DList DFlat x y H
theorem mon_val : Mon DVal := Mon.or mon_flat (Mon.or (mon_dict mon_flat) (mon_list mon_flat))
theorem eqG_val {X : Cx} : EqG X 1 DVal := EqG.or (EqG.mono eqG_flat (by decide)) (EqG.or (eqG_dict mon_flat eqG_flat) (eqG_list mon_flat eqG_flat))
theorem op_eqParts {X : Cx} (K : PySem.W.Frag) (hr : Room 2 X.A) (hK : X.K = K := by rfl) : OpR X (compareOp .Eq) (rEqG (DTup K DVal)) := by
  subst hK
  exact op_eqG (rcG_tup mon_val eqG_val) hr
end Cw

/-! CwEq -/
set_option Elab.async false
set_option linter.all false
set_option maxRecDepth 100000
set_option maxHeartbeats 4000000
namespace Cw
open PySem PySem.Spec PyProof.Rows L2
section
variable {P : Program} {w : World} {K : PySem.W.Frag} {mg : Str → Option Value} {base : Heap}
/-! own == of items and nets -/
def RItem (K : PySem.W.Frag) (a b : Addr) (H : Hp) : Prop := ∃ it, ItemAt K H a it ∧ ItemAt K H b it ∧ ItOk it
def DItem (K : PySem.W.Frag) : Eqv := fun x y H => ∃ a b, x = .ref a ∧ y = .ref b ∧ RItem K a b H
theorem mon_item {K : PySem.W.Frag} : Mon (DItem K) := fun x y H H' e d => by
  obtain ⟨a, b, hx, hy, it, ha, hb, ok⟩ := d
  exact ⟨a, b, hx, hy, it, ha.mono e, hb.mono e, ok⟩
theorem lookup_of {w : List (Str × Str)} (nd : (keys w).Nodup) {h y : Str} (m : (h, y) ∈ w) : w.lookup h = some y := by
  obtain ⟨z, e1, e2⟩ := lookup_mem (w := w) (h := h) (List.mem_map.mpr ⟨_, m, rfl⟩)
  have := map_inj (f := fun p : Str × Str => p.1) nd e2 m rfl
  rw [e1]
  exact congrArg some (congrArg Prod.snd this)
theorem d_str (H : Hp) (z : Str) : DVal (.str z) (.str z) H := .inl ⟨rfl, rfl, by simp [eqV]⟩
theorem d_way {it : Item} (ok : ItOk it) {H : Hp} {wA wB : Addr} {w1 w2 : List (Str × Str)} (p1 : w1.Perm it.wy) (p2 : w2.Perm it.wy) (h1 : H wA = some (.dK (dk w1))) (h2 : H wB = some (.dK (dk w2))) : DVal (.ref wA) (.ref wB) H := by
  refine .inr (.inl ⟨wA, wB, _, _, rfl, rfl, h1, h2, ?_, fun k v m => ?_⟩)
  · rw [dk_len, dk_len, p1.length_eq, p2.length_eq]
  · obtain ⟨p, hp, e⟩ := List.mem_map.mp m
    cases e
    have nd : (keys w2).Nodup := (p2.map _).nodup_iff.mpr ok.way.nd
    refine ⟨.str p.2, ?_, rfl, rfl, by simp [eqV]⟩
    rw [valV_dk, lookup_of nd (p2.mem_iff.mpr (p1.mem_iff.mp hp))]
    rfl
theorem d_mem {H : Hp} {mA mB : Addr} {ss : List Str} (h1 : H mA = some (.lst (sL ss))) (h2 : H mB = some (.lst (sL ss))) : DVal (.ref mA) (.ref mB) H := by
  refine .inr (.inr ⟨mA, mB, _, _, rfl, rfl, h1, h2, rfl, fun i x y e1 e2 => ?_⟩)
  rw [e1] at e2
  cases e2
  obtain ⟨z, _, rfl⟩ := List.mem_map.mp (List.mem_of_getElem? e1)
  exact ⟨rfl, rfl, by simp [eqV]⟩
def sp_Item_eq (K : PySem.W.Frag) : Sp := spEq (RItem K)
/-! Item.__eq__: 0:self 1:other -/
abbrev n_Item_eq : List Str := ["self", "other"]
theorem sc_Item_eq : FnScope n_Item_eq ["self", "other"] (defScope s_Item_eq) := ⟨rfl, rfl, rfl, by decide +kernel, rfl, by decide +kernel, by decide +kernel⟩
theorem c_Item_eq (T : Txt K mg) : Cal P w K mg base 4 (He.ma K (He.ga K "Item") "__eq__") ["self", "other"] (sp_Item_eq K) := by
  refine T.d_Item_eq.cal sc_Item_eq (fun _ _ _ _ _ _ us hl => match us, hl with | [_, _], _ => rfl) (fun vs H Q E h => ?_) (fun cdv A outer s H vs Q E hr h => ?_)
  · obtain ⟨_, _, rfl, _⟩ := h; rfl
  · obtain ⟨a, b, rfl, ⟨it, ha, hb, ok⟩, k⟩ := h
    refine ⟨_, (pss_one (ps_ret (pe_and (pe_callB (kcall_isi K) (by rfl) T.b_isinstance bt_isinstance (pa_cons (pv 1) (pa_cons (pe_glob (v := .ref (He.ga K "Item")) rfl T.g_Item rfl) pa_nil))) (pe_one (pe_cmpR (op_eqParts K (hr.mono (by decide))) (kpe_fld K (pv 0) rfl) (kpe_fld K (pv 1) rfl) (nomark _)))))), ?_⟩
    refine ⟨_, rfl, _, _, _, _, _, rfl, .own _, ty_item T hb, (clsC T).k_item, _, rfl, iteT ?_⟩
    obtain ⟨kle, dx, wA, pA, mA, wy, h1, h2, h3, h4, h5⟩ := ha
    obtain ⟨_, dx', wB, pB, mB, wy', g1, g2, g3, g4, g5⟩ := hb
    refine ⟨_, rfl, a, _, dx, _, _, rfl, h1, (clsC T).ins.cl, (clsC T).n_own_parts, fl_parts, _, rfl, b, _, dx', _, _, rfl, g1, (clsC T).ins.cl, (clsC T).n_own_parts, fl_parts, ?_⟩
    refine ⟨⟨pA, pB, _, _, rfl, rfl, .inl (.inl h4), .inl (.inl g4), ?_⟩, k⟩
    unfold partsOf
    refine (Prs.cons (d_str _ _) (Prs.cons (d_str _ _) (Prs.cons (d_str _ _) (Prs.cons (d_str _ _) (Prs.cons (d_way ok h2 g2 h3 g3) ?_)))))
    split
    · exact Prs.nil
    · rename_i hk
      exact Prs.cons (d_mem (h5 hk) (g5 hk)) Prs.nil
theorem eqG_items {X : Cx} (T : Txt X.K X.mg) : EqG X 4 (DItem X.K) := by
  obtain ⟨fd, F, hb, kp⟩ := (c_Item_eq (P := X.prog) (w := X.w) (base := X.base) T).ex
  have e : ∀ k, EqG X 4 (DIns (clsOf X.K k) (RItem X.K)) := fun k => eqG_ins F (clsC T (k := k)).m_eq.at_ (clsC T (k := k)).m_eq.fn hb pass0
  refine (EqG.or (e 0) (EqG.or (e 1) (e 2))).imp fun x y H d => ?_
  obtain ⟨a, b, rfl, rfl, it, ha, hb, ok⟩ := d
  have r : RItem X.K a b H := ⟨it, ha, hb, ok⟩
  obtain ⟨kle, dx, wA, pA, mA, wy, h1, _⟩ := ha
  obtain ⟨_, dx', wB, pB, mB, wy', g1, _⟩ := hb
  have d : DIns (clsOf X.K it.k) (RItem X.K) (.ref a) (.ref b) H := ⟨a, b, dx, dx', _, _, rfl, rfl, h1, g1, r⟩
  have : it.k = 0 ∨ it.k = 1 ∨ it.k = 2 := by omega
  rcases this with z | z | z
  · rw [z] at d; exact .inl d
  · rw [z] at d; exact .inr (.inl d)
  · rw [z] at d; exact .inr (.inr d)
theorem op_eqItems {X : Cx} (T : Txt K mg) (hr : Room 5 X.A) (hK : X.K = K := by rfl) (hm : X.mg = mg := by rfl) : OpR X (compareOp .Eq) (rEqG (DDict (DItem K))) := by
  subst hK hm
  exact op_eqG (rcG_dict mon_item (eqG_items T)) hr
theorem item_offD {H : Hp} {q D : Addr} {it : Item} (h : ItemAt K H q it) (hD : ∀ o, H D = some o → ∃ k p r, o = HO.dK ((k, V.ref p) :: r)) : ItemAt K (off D H) q it := by
  obtain ⟨k, dx, wA, pA, mA, wy, h1, h2, h3, h4, h5⟩ := h
  refine ⟨k, dx, wA, pA, mA, wy, ?_, h2, ?_, ?_, fun hk => ?_⟩
  · exact off_of h1 (fun z => by rw [← z] at hD; obtain ⟨_, _, _, e⟩ := hD _ h1; cases e)
  · refine off_of h3 (fun z => ?_)
    rw [← z] at hD
    obtain ⟨k', p', r', e⟩ := hD _ h3
    cases wy with
    | nil => cases e
    | cons x r => cases e
  · exact off_of h4 (fun z => by rw [← z] at hD; obtain ⟨_, _, _, e⟩ := hD _ h4; cases e)
  · exact off_of (h5 hk) (fun z => by rw [← z] at hD; obtain ⟨_, _, _, e⟩ := hD _ (h5 hk); cases e)
def RNet (K : PySem.W.Frag) (a b : Addr) (H : Hp) : Prop := ∃ w its, NetAt K H a w its ∧ NetAt K H b w its ∧ NetOk w its
def DNet (K : PySem.W.Frag) : Eqv := fun x y H => ∃ a b, x = .ref a ∧ y = .ref b ∧ RNet K a b H
def sp_Gathered_eq (K : PySem.W.Frag) : Sp := spEq (RNet K)
/-! Gathered.__eq__: 0:self 1:other -/
abbrev n_Gathered_eq : List Str := ["self", "other"]
theorem sc_Gathered_eq : FnScope n_Gathered_eq ["self", "other"] (defScope s_Gathered_eq) := ⟨rfl, rfl, rfl, by decide +kernel, rfl, by decide +kernel, by decide +kernel⟩
theorem c_Gathered_eq (T : Txt K mg) : Cal P w K mg base 11 (He.ma K (He.ga K "Gathered") "__eq__") ["self", "other"] (sp_Gathered_eq K) := by
  refine T.d_Gathered_eq.cal sc_Gathered_eq (fun _ _ _ _ _ _ us hl => match us, hl with | [_, _], _ => rfl) (fun vs H Q E h => ?_) (fun cdv A outer s H vs Q E hr h => ?_)
  · obtain ⟨_, _, rfl, _⟩ := h; rfl
  · obtain ⟨a, b, rfl, ⟨w, its, ha, hb, ok⟩, k⟩ := h
    refine ⟨_, (pss_one (ps_ret (pe_and (pe_callB (kcall_isi K) (by rfl) T.b_isinstance bt_isinstance (pa_cons (pv 1) (pa_cons (pe_glob (v := .ref (He.ga K "Gathered")) rfl T.g_Gathered rfl) pa_nil))) (pe_and (pe_cmpR op_eq (kpe_fld K (pv 0) rfl) (kpe_fld K (pv 1) rfl) (nomark _)) (pe_one (pe_cmpR (op_eqItems T (hr.mono (by decide))) (kpe_fld K (pv 0) rfl) (kpe_fld K (pv 1) rfl) (nomark _))))))), ?_⟩
    have ty : TyX K H (.ref b) (.ref (He.ga K "Gathered")) := by
      obtain ⟨dx, _, _, _, _, h1, _⟩ := hb
      have c := T.c_Gathered
      exact .base (.ins h1 c.cl c.ha c.hn c.htk c.hm)
    refine ⟨_, rfl, _, _, _, _, _, rfl, .own _, ty, T.k_Gathered_Gathered, _, rfl, iteT ?_⟩
    refine ⟨_, rfl, rd_width T ha ⟨_, rfl, rd_width T hb ⟨rfl, _, rfl, ?_⟩⟩⟩
    rw [decide_eq_true rfl]
    refine iteT ⟨_, rfl, rd_own T ha fun dA oA hA pA atA => ⟨_, rfl, rd_own T hb fun dB oB hB pB atB => ⟨?_, k⟩⟩⟩
    have hd : ∀ {D : Addr} {os : List (Addr × Item)}, H D = some (.dK (os.map fun q : Addr × Item => (Sum.inr q.2.nm, V.ref q.1))) → List.Perm (os.map (·.2)) its → ∀ o, H D = some o → ∃ k p r, o = HO.dK ((k, V.ref p) :: r) := by
      intro D os hD po o ho
      rw [hD] at ho
      cases ho
      cases os with
      | nil => exact absurd po.nil_eq.symm ok.ne
      | cons x r => exact ⟨_, _, _, rfl⟩
    have io : ∀ {q : Addr} {it : Item}, ItemAt K H q it → ItemAt K (off dA (off dB H)) q it := fun h =>
      item_offD (item_offD h (hd hB pB)) fun o ho => hd hA pA o (off_le _ _ ho)
    refine ⟨dA, dB, _, _, rfl, rfl, hA, hB, ?_, fun k v m => ?_⟩
    · have e1 := pA.length_eq
      have e2 := pB.length_eq
      rw [List.length_map] at e1 e2 ⊢
      rw [List.length_map]; omega
    · obtain ⟨q, hq, e⟩ := List.mem_map.mp m
      cases e
      have hi : q.2 ∈ its := pA.mem_iff.mp (List.mem_map.mpr ⟨q, hq, rfl⟩)
      obtain ⟨q', hq', e', hv⟩ := own_get ok pB hi
      exact ⟨.ref q'.1, hv, q.1, q'.1, rfl, rfl, q.2, io (atA q hq), io (by rw [← e']; exact atB q' hq'), ok.ok _ hi⟩
theorem rcG_nets {X : Cx} (T : Txt X.K X.mg) : RcG X 11 (DNet X.K) := by
  obtain ⟨fd, F, hb, kp⟩ := (c_Gathered_eq (P := X.prog) (w := X.w) (base := X.base) T).ex
  have e : RcG X 11 (DIns (He.ga X.K "Gathered") (RNet X.K)) := rcG_ins F T.m_Gathered_eq.at_ T.m_Gathered_eq.fn hb pass0
  intro A pins s σ H x y u v sb I rx ry d
  refine e A pins s σ H x y u v sb I rx ry ?_
  obtain ⟨a, b, rfl, rfl, r⟩ := d
  obtain ⟨w, its, ha, hb, ok⟩ := id r
  obtain ⟨dx, _, _, _, _, h1, _⟩ := ha
  obtain ⟨dx', _, _, _, _, g1, _⟩ := hb
  exact ⟨a, b, dx, dx', _, _, rfl, rfl, h1, g1, r⟩
theorem op_eqNets {X : Cx} (T : Txt K mg) (hr : Room 11 X.A) (hK : X.K = K := by rfl) (hm : X.mg = mg := by rfl) : OpR X (compareOp .Eq) (rEqG (DNet K)) := by
  subst hK hm
  exact op_eqG (rcG_nets T) hr
end
end Cw

/-! CwDp -/
set_option Elab.async false
set_option linter.all false
set_option maxRecDepth 100000
set_option maxHeartbeats 4000000
namespace Cw
open PySem PySem.Spec PyProof.Rows L2
section
variable {P : Program} {w : World} {K : PySem.W.Frag} {mg : Str → Option Value} {base : Heap}
/-! triples as data -/
def tripD (c : List Str × Str × Str) : PyData := .tuple [.list (c.1.map PyData.str), .str c.2.1, .str c.2.2]
theorem strs_dp {K : PySem.W.Frag} {H : Hp} : ∀ l : List Str, DpAll K H (sL l) (l.map PyData.str)
  | [] => .nil
  | x :: r => .cons (.str x) (strs_dp r)
theorem trip_dp {K : PySem.W.Frag} {H : Hp} {c : List Str × Str × Str} {v : V} (h : TripV H c v) : Dp K H v (tripD c) := by
  obtain ⟨t, g, rfl, h1, h2⟩ := h
  exact .tup (.inl (.inl h1)) (.cons (.lst (SqL.of h2) (strs_dp _)) (.cons (.str _) (.cons (.str _) .nil)))
theorem trips_dp {K : PySem.W.Frag} {H : Hp} {ts : List (List Str × Str × Str)} {zs : List V} (h : Paired (TripV H) ts zs) : DpAll K H zs (ts.map tripD) := by
  induction h with
  | nil => exact .nil
  | cons h _ ih => exact .cons (trip_dp h) ih
theorem ok_name {x : Str} (h : NameOk x) : PyData.strOk x = true := by
  obtain ⟨c, rfl, h1, h2⟩ := h
  unfold PyData.strOk
  simp
  omega
theorem ok_bits {x : Str} (h : isBits x) : PyData.strOk x = true := by
  unfold PyData.strOk
  rw [← Array.all_toList, List.all_eq_true]
  intro c hc
  have := h c hc
  simp
  omega
theorem all_lay : ∀ {l : List Str}, (∀ x ∈ l, PyData.strOk x = true) → PyData.canLayAll0 (l.map PyData.str) = true
  | [], _ => by simp [PyData.canLayAll0]
  | x :: r, h => by
    rw [List.map_cons, PyData.canLayAll0, PyData.canLay0, h x (by simp), all_lay fun y hy => h y (List.mem_cons_of_mem _ hy)]
    rfl
def OkTrip (c : List Str × Str × Str) : Prop := (∀ x ∈ c.1, NameOk x) ∧ isBits c.2.1 ∧ NameOk c.2.2
theorem trip_lay {c : List Str × Str × Str} (h : OkTrip c) : (tripD c).canLay0 = true := by
  unfold tripD
  simp only [PyData.canLay0, PyData.canLayAll0]
  rw [all_lay fun x hx => ok_name (h.1 x hx), ok_bits h.2.1, ok_name h.2.2]
  rfl
theorem trips_lay : ∀ {ts : List (List Str × Str × Str)}, (∀ c ∈ ts, OkTrip c) → PyData.canLayAll0 (ts.map tripD) = true
  | [], _ => by simp [PyData.canLayAll0]
  | c :: r, h => by
    rw [List.map_cons, PyData.canLayAll0, trip_lay (h c (by simp)), trips_lay fun y hy => h y (List.mem_cons_of_mem _ hy)]
    rfl
theorem strs_depth : ∀ l : List Str, PyData.depthAll (l.map PyData.str) ≤ 1
  | [] => by simp [PyData.depthAll]
  | x :: r => by
    rw [List.map_cons, PyData.depthAll]
    have := strs_depth r
    simp only [PyData.depth]
    omega
theorem trip_depth (c : List Str × Str × Str) : (tripD c).depth ≤ 3 := by
  unfold tripD
  simp only [PyData.depth, PyData.depthAll]
  have := strs_depth c.1
  omega
theorem trips_depth : ∀ ts : List (List Str × Str × Str), PyData.depthAll (ts.map tripD) ≤ 3
  | [] => by simp [PyData.depthAll]
  | c :: r => by
    rw [List.map_cons, PyData.depthAll]
    have := trip_depth c
    have := trips_depth r
    omega
theorem trip_shaped {c : List Str × Str × Str} (h : OkTrip c) : SeqAt.shaped (tripD c) = true := by
  unfold SeqAt.shaped
  rw [trip_lay h, Bool.true_and]
  have := trip_depth c
  exact decide_eq_true (by omega)
theorem trips_shaped {ts : List (List Str × Str × Str)} (h : ∀ c ∈ ts, OkTrip c) : SeqAt.shaped (.list (ts.map tripD)) = true := by
  unfold SeqAt.shaped
  have e : (PyData.list (ts.map tripD)).canLay0 = true := by simp only [PyData.canLay0]; exact trips_lay h
  have d : (PyData.list (ts.map tripD)).depth ≤ 4 := by
    have := trips_depth ts
    simp only [PyData.depth]
    omega
  rw [e, Bool.true_and]
  exact decide_eq_true (by omega)
theorem trip_in {ts : List (List Str × Str × Str)} {c : List Str × Str × Str} (h : OkTrip c) (m : c ∈ ts) : ((ts.map tripD).any fun z => PyData.eqv z (tripD c)) = true :=
  List.any_eq_true.mpr ⟨tripD c, List.mem_map.mpr ⟨c, m, rfl⟩, SeqAt.eqv_refl _ (trip_lay h)⟩
end
end Cw

/-! CwEa -/
set_option Elab.async false
set_option linter.all false
set_option maxRecDepth 100000
set_option maxHeartbeats 4000000
namespace Cw
open PySem PySem.Spec PyProof.Rows L2
section
variable {P : Program} {w : World} {K : PySem.W.Frag} {mg : Str → Option Value} {base : Heap}
/-! what the law's own end leans on, plain -/
def setK (S : List Str) (k : Nat) (it : Item) : Item := if it.nm ∈ S then { it with k := k } else it
theorem setK_nm (S : List Str) (k : Nat) (it : Item) : (setK S k it).nm = it.nm := by unfold setK; split <;> rfl
theorem setK_nil (k : Nat) (its : List Item) : its.map (setK [] k) = its := by
  conv => rhs; rw [← List.map_id its]
  exact List.map_congr_left fun it _ => by unfold setK; rw [if_neg (by simp)]; rfl
theorem shut_setK (S : List Str) (n : Str) (it : Item) : shutIt n (setK S 2 it) = setK (S ++ [n]) 2 it := by
  unfold shutIt
  rw [setK_nm]
  unfold setK
  by_cases h : it.nm = n
  · rw [if_pos h, if_pos (show it.nm ∈ S ++ [n] by simp [h])]
    split <;> rfl
  · rw [if_neg h]
    by_cases h2 : it.nm ∈ S
    · rw [if_pos h2, if_pos (List.mem_append_left _ h2)]
    · rw [if_neg h2, if_neg (by simp [h2, h])]
theorem open_setK (S : List Str) (n : Str) (it : Item) : openIt n (setK S 1 it) = setK (S ++ [n]) 1 it := by
  unfold openIt
  rw [setK_nm]
  unfold setK
  by_cases h : it.nm = n
  · rw [if_pos h, if_pos (show it.nm ∈ S ++ [n] by simp [h])]
    split <;> rfl
  · rw [if_neg h]
    by_cases h2 : it.nm ∈ S
    · rw [if_pos h2, if_pos (List.mem_append_left _ h2)]
    · rw [if_neg h2, if_neg (by simp [h2, h])]
theorem map_shut (S : List Str) (n : Str) (its : List Item) : (its.map (setK S 2)).map (shutIt n) = its.map (setK (S ++ [n]) 2) := by
  rw [List.map_map]; exact List.map_congr_left fun it _ => shut_setK S n it
theorem map_open (S : List Str) (n : Str) (its : List Item) : (its.map (setK S 1)).map (openIt n) = its.map (setK (S ++ [n]) 1) := by
  rw [List.map_map]; exact List.map_congr_left fun it _ => open_setK S n it
structure TopsOk (its : List Item) (ts : List Str) : Prop where
  mem : ∀ n ∈ ts, ∃ it ∈ its, it.nm = n ∧ it.k ≠ 0
  all : ∀ it ∈ its, it.k ≠ 0 → it.nm ∈ ts
section
variable {w : Nat} {its : List Item} {ts S : List Str} {k : Nat} {ps : List (Addr × Th)}
theorem TopsOk.k0 (ok : NetOk w its) (t : TopsOk its ts) {it : Item} (hi : it ∈ its) (h : it.nm ∈ ts) : it.k ≠ 0 := by
  obtain ⟨x, hx, e, hk⟩ := t.mem _ h
  rw [← ok.inj hx hi e]; exact hk
theorem TopsOk.gath (ok : NetOk w its) (t : TopsOk its ts) {n : Str} (h : n ∈ ts) : Gath n its := fun it hi e => t.k0 ok hi (by rw [e]; exact h)
theorem lk_set (ok : NetOk w its) (t : TopsOk its ts) (hS : ∀ n ∈ S, n ∈ ts) (h0 : k ≠ 0) (h2 : k ≤ 2) : Lk (setK S k) its := by
  refine ⟨fun it _ => setK_nm S k it, fun it _ => ?_, fun it _ => ?_, fun it _ => ?_, fun it _ => ?_, fun it _ => ?_, fun it hi => ?_, fun it hi => ?_⟩
  · unfold setK; split <;> rfl
  · unfold setK; split <;> rfl
  · unfold setK; split <;> rfl
  · unfold setK; split <;> rfl
  · unfold setK; split <;> rfl
  · unfold setK
    split
    · rename_i h
      have := t.k0 ok hi (hS _ h)
      simp only
      omega
    · exact Iff.rfl
  · unfold setK
    split
    · exact h2
    · exact (ok.ok it hi).kle
theorem tops_set (ok : NetOk w its) (t : TopsOk its ts) (hS : ∀ n ∈ S, n ∈ ts) (h0 : k ≠ 0) (h2 : k ≤ 2) : TopsOk (its.map (setK S k)) ts := by
  have L := lk_set ok t hS h0 h2
  refine ⟨fun n hn => ?_, fun it hi hk => ?_⟩
  · obtain ⟨x, hx, e, hk⟩ := t.mem n hn
    exact ⟨_, List.mem_map.mpr ⟨x, hx, rfl⟩, by rw [setK_nm]; exact e, fun z => hk ((L.k0 x hx).mp z)⟩
  · obtain ⟨x, hx, rfl⟩ := List.mem_map.mp hi
    rw [setK_nm]
    exact t.all x hx fun z => hk ((L.k0 x hx).mpr z)
theorem like_set (l : Like ps its) (L : Lk (setK S k) its) : Like ps (its.map (setK S k)) := fun x hx => by
  obtain ⟨it, hi, e1, e2, e3, e4⟩ := l x hx
  exact ⟨_, List.mem_map.mpr ⟨it, hi, rfl⟩, by rw [L.nm it hi]; exact e1, by rw [L.wy it hi]; exact e2, by rw [L.kp it hi]; exact e3, fun z => (L.k0 it hi).mpr (e4 z)⟩
theorem set_twice {us : List Str} (h : ∀ n, n ∈ us ↔ n ∈ ts) : (its.map (setK ts 1)).map (setK us 2) = its.map (setK ts 2) := by
  rw [List.map_map]
  refine List.map_congr_left fun it _ => ?_
  show setK us 2 (setK ts 1 it) = _
  have e : it.nm ∈ us ↔ it.nm ∈ ts := h it.nm
  unfold setK
  by_cases z : it.nm ∈ ts
  · rw [if_pos z, if_pos z]
    exact if_pos (e.mpr z)
  · rw [if_neg z, if_neg z]
    exact if_neg fun q => z (e.mp q)
theorem set_shut (t : TopsOk its ts) : ∀ it ∈ its.map (setK ts 2), it.k ≠ 1 := fun it hi z => by
  obtain ⟨x, hx, rfl⟩ := List.mem_map.mp hi
  unfold setK at z
  split at z
  · simp at z
  · rename_i h
    exact h (t.all x hx (by omega))
theorem like_of {base : Str} (hp : its.Perm (ps.map fun r => itOf base r.2)) : Like ps its := fun x hx =>
  ⟨itOf base x.2, hp.mem_iff.mpr (List.mem_map.mpr ⟨x, hx, rfl⟩), rfl, rfl, rfl, fun h => if_pos h⟩
theorem itOf_k {base : Str} {t : Th} : (itOf base t).k ≠ 0 ↔ t.kd ≠ [] := by
  show (if t.kd = [] then 0 else if t.sh = true then 2 else 1) ≠ 0 ↔ _
  split
  · rename_i h; simp [h]
  · rename_i h
    split <;> simp [h]
theorem tops_of {base : Str} (hp : its.Perm (ps.map fun r => itOf base r.2)) (ht : ts.Perm ((ps.filter topF).map fun r => r.2.tg)) : TopsOk its ts := by
  refine ⟨fun n hn => ?_, fun it hi hk => ?_⟩
  · obtain ⟨x, hx, rfl⟩ := List.mem_map.mp (ht.mem_iff.mp hn)
    obtain ⟨h1, h2⟩ := List.mem_filter.mp hx
    exact ⟨itOf base x.2, hp.mem_iff.mpr (List.mem_map.mpr ⟨x, h1, rfl⟩), rfl, itOf_k.mpr (of_decide_eq_true h2)⟩
  · obtain ⟨x, hx, rfl⟩ := List.mem_map.mp (hp.mem_iff.mp hi)
    exact ht.mem_iff.mpr (List.mem_map.mpr ⟨x, List.mem_filter.mpr ⟨hx, decide_eq_true (itOf_k.mp hk)⟩, rfl⟩)
theorem ok_trip {wide turn : Nat} {base : Str} {cs : List (List Str × Str)} (d : DealOk wide base turn (ps.map (·.2))) (ok : ∀ c ∈ cs, GoneOk ps c.1 ∧ IsAd wide c.2) {c : List Str × Str × Str} (h : Round ps its cs c) : OkTrip c := by
  obtain ⟨ss, _, _, s4, dl⟩ := d.ss
  obtain ⟨h1, ⟨x, hx, h2⟩, _⟩ := h
  obtain ⟨o1, o2⟩ := ok _ h1
  have m : x.2 ∈ ps.map (·.2) := List.mem_map.mpr ⟨x, hx, rfl⟩
  refine ⟨fun n hn => ?_, o2.1, ?_⟩
  · obtain ⟨y, hy, _, rfl⟩ := o1.mem n hn
    exact dl.tagOk (List.mem_map.mpr ⟨y, hy, rfl⟩)
  · rcases h2 with z | z
    · exact s4 _ ((dl.rd _ m).sub _ z)
    · rw [z]; exact s4 _ (dl.hm _ m)
end
/-! the pot is none of a net's parts -/
theorem pot_ne_strs {x y : Int} {ss : List Str} : [V.int x, V.int y] ≠ sL ss := fun e => by
  cases ss with
  | nil => cases e
  | cons z r => cases e
theorem item_offP {H : Hp} {a q : Addr} {it : Item} (h : ItemAt K H q it) (hp : PotAt H a) : ItemAt K (off a H) q it := by
  obtain ⟨k, dx, wA, pA, mA, wy, h1, h2, h3, h4, h5⟩ := h
  obtain ⟨x, y, ha, _⟩ := hp
  refine ⟨k, dx, wA, pA, mA, wy, off_of h1 (fun z => by rw [z, ha] at h1; cases h1), h2, off_of h3 (fun z => by rw [z, ha] at h3; cases h3), off_of h4 (fun z => by rw [z, ha] at h4; cases h4), fun hk => off_of (h5 hk) (fun z => ?_)⟩
  have e := h5 hk
  rw [z, ha] at e
  exact pot_ne_strs (HO.lst.inj (Option.some.inj e))
theorem net_offP {H : Hp} {a p : Addr} {w : Nat} {its : List Item} (h : NetAt K H p w its) (hp : PotAt H a) : NetAt K (off a H) p w its := by
  obtain ⟨dx, lA, dA, ips, ops, h1, h2, h3, h4, h5, h6⟩ := h
  refine ⟨dx, lA, dA, ips, ops, ?_, ?_, ?_, h4, h5, fun q hq => item_offP (h6 q hq) hp⟩
  · obtain ⟨x, y, ha, _⟩ := hp
    exact off_of h1 (fun z => by rw [z, ha] at h1; cases h1)
  · obtain ⟨x, y, ha, _⟩ := hp
    refine off_of h2 (fun z => ?_)
    rw [z, ha] at h2
    have e := HO.lst.inj (Option.some.inj h2)
    cases ips with
    | nil => cases e
    | cons z r => cases e
  · obtain ⟨x, y, ha, _⟩ := hp
    exact off_of h3 (fun z => by rw [z, ha] at h3; cases h3)
theorem trip_offP {H : Hp} {a : Addr} {c : List Str × Str × Str} {v : V} (h : TripV H c v) (hp : PotAt H a) : TripV (off a H) c v := by
  obtain ⟨t, g, rfl, h1, h2⟩ := h
  obtain ⟨x, y, ha, _⟩ := hp
  refine ⟨t, g, rfl, off_of h1 (fun z => by rw [z, ha] at h1; cases h1), off_of h2 (fun z => ?_)⟩
  rw [z, ha] at h2
  exact pot_ne_strs (HO.lst.inj (Option.some.inj h2))
theorem round_none {w : Nat} {its : List Item} {ps : List (Addr × Th)} {cs : List (List Str × Str)} {ts : List (List Str × Str × Str)} (safe : ∀ wd x, IsAd w x → ∀ h, ¬ Rings (step its wd x) h) (okc : ∀ c ∈ cs, GoneOk ps c.1 ∧ IsAd w c.2) (m : ∀ c, c ∈ ts ↔ Round ps its cs c) : ts = [] :=
  List.eq_nil_iff_forall_not_mem.mpr fun c h => by
    obtain ⟨h1, _, h3⟩ := (m c).mp h
    exact safe _ _ (okc _ h1).2 _ h3
theorem zs_nil {H : Hp} {ts : List (List Str × Str × Str)} {zs : List V} (h : Paired (TripV H) ts zs) (e : ts = []) : zs = [] := by
  subst e
  exact List.length_eq_zero_iff.mp (paired_len h).symm
theorem if_no {c : TT} {t u r : TS} {D : L2.Ends} {σ : L2.St} {H : Hp} (hc : ∀ Q : Bool → Hp → Prop, (∀ H', Same H H' → Q false H') → c σ H Q) (h : ∀ H', Same H H' → u { D with nx := r D } σ H') : tSeq (tIfS c t u) r D σ H :=
  hc _ fun H' e => iteF (h H' e)
theorem nx_mk {f : L2.St → Hp → Prop} {rt : VK} {bk ct : L2.St → Hp → Prop} {σ : L2.St} {H : Hp} (h : f σ H) : (L2.Ends.mk f rt bk ct).nx σ H := h
theorem room65 {A : Around} (h : Room 1 A) : A.units + 65 < cLine := by have := h.un; omega
end
end Cw

/-! CwEb -/
set_option Elab.async false
set_option linter.all false
set_option maxRecDepth 100000
set_option maxHeartbeats 4000000
namespace Cw
open PySem PySem.Spec PyProof.Rows L2
section
variable {P : Program} {w : World} {K : PySem.W.Frag} {mg : Str → Option Value} {base : Heap}
/-! the law for one pot -/
def sp_law_right (K : PySem.W.Frag) : Sp := fun vs H Q _ => ∃ a : Addr, vs = [.ref a] ∧ PotAt H a ∧ ∀ H', Go a H H' → Q (.bl true) H'
/-! _law_right: 0:_law_pot_here 1:_law_deal_here 2:_law_tag 3:_law_turn 4:_law_tome 5:_law_tops_here 6:_law_cases_here 7:_law_shut 8:_law_loose *9:_law_before 10:_law_was_safe 11:_law_later 12:_law_now_safe 13:_law_thing_here -/
abbrev n_law_right : List Str := ["_law_pot_here", "_law_deal_here", "_law_tag", "_law_turn", "_law_tome", "_law_tops_here", "_law_cases_here", "_law_shut", "_law_loose", "_law_before", "_law_was_safe", "_law_later", "_law_now_safe", "_law_thing_here"]
theorem sc_law_right : FnScope n_law_right ["_law_pot_here"] (defScope s_law_right) := ⟨rfl, rfl, rfl, by decide +kernel, rfl, by decide +kernel, by decide +kernel⟩
theorem c_law_right (T : Txt K mg) (G : GiniAt P K) : Cal P w K mg base 18 (He.ga K "_law_right") ["_law_pot_here"] (sp_law_right K) := by
  refine T.d_law_right.cal sc_law_right (fun _ _ _ _ _ _ us hl => match us, hl with | [_], _ => rfl) (fun vs H Q E h => ?_) (fun cdv A outer s H vs Q E hr h => ?_)
  · obtain ⟨_, rfl, _⟩ := h; rfl
  · obtain ⟨a, rfl, hp, k⟩ := h
    refine ⟨_, (pss_cons (ps_set (i := 1) sc_law_right.nd rfl (Or.inl rfl) (pe_cal (c_law_deal T) (hr.mono (by decide)) (by rfl) T.g_law_deal (pa_cons (pv 0) pa_nil)))
      (pss_cons (ps_par3 (i := 4) (j := 5) (l := 6) rfl sc_law_right.nd rfl rfl rfl (by decide) (by decide) (by decide) rfl rfl rfl (pa_cons (pe_cal (c_law_made T G) (hr.mono (by decide)) (by rfl) T.g_law_made (pa_cons (pv 1) pa_nil)) (pa_cons (pe_cal (c_law_tops T) (hr.mono (by decide)) (by rfl) T.g_law_tops (pa_cons (pv 1) pa_nil)) (pa_cons (pe_cal (c_law_cases T) (hr.mono (by decide)) (by rfl) T.g_law_cases (pa_cons (pv 0) (pa_cons (pv 1) pa_nil))) pa_nil))) (by rfl))
      (pss_cons (ps_par (i := 7) (j := 8) rfl sc_law_right.nd rfl rfl (by decide) rfl rfl (pa_cons (pv 4) (pa_cons (pv 4) pa_nil)) (by rfl))
      (pss_cons (ps_for PassesOwn.never rfl (kpi_list K (pv 5)) (pg_name (i := 2) sc_law_right.nd rfl (Or.inl rfl))
        (pss_one (ps_par (i := 7) (j := 8) rfl sc_law_right.nd rfl rfl (by decide) rfl rfl (pa_cons (pe_met (pv 7) (im_Gathered_with_hole T) (c_Gathered_with_hole T G) (hr.mono (by decide)) (pa_cons (pv 2) pa_nil)) (pa_cons (pe_met (pv 8) (im_Gathered_without_hole T) (c_Gathered_without_hole T G) (hr.mono (by decide)) (pa_cons (pv 2) pa_nil)) pa_nil)) (by rfl))))
      (pss_cons (ps_if (PW.pt (pw_or (pt_not (pt_val (pe_cal (c_law_all_rise T) (hr.mono (by decide)) (by rfl) T.g_law_all_rise (pa_cons (pv 1) (pa_cons (pv 7) (pa_cons (pv 6) pa_nil)))))) (pw_or1 (pt_not (pt_val (pe_cal (c_is_safe T) (hr.mono (by decide)) (by rfl) T.g_is_safe (pa_cons (pv 7) pa_nil)))))))
        (pss_one (ps_ret pe_bl)) pss_nil)
      (pss_cons (ps_asg (pe_tup (pa_cons (pe_cal (c_law_told_round T) (hr.mono (by decide)) (by rfl) T.g_law_told_round (pa_cons (pv 1) (pa_cons (pv 8) (pa_cons (pv 6) pa_nil)))) (pa_cons (pe_cal (c_is_safe T) (hr.mono (by decide)) (by rfl) T.g_is_safe (pa_cons (pv 8) pa_nil)) pa_nil))) (kpg_tup K (n := 2) rfl (pgs_cons (pg_name (i := 9) sc_law_right.nd rfl (Or.inr rfl)) (pgs_cons (pg_name (i := 10) sc_law_right.nd rfl (Or.inl rfl)) pgs_nil))))
      (pss_cons (ps_if (PW.pt (pw_and (pt_val (pv 10)) (pw_and1 (pt_cmpR (op_neNil K hr.units0) (pv 9) (pe_lst pa_nil) (nomark _)))))
        (pss_one (ps_ret pe_bl)) pss_nil)
      (pss_cons (ps_set (i := 3) sc_law_right.nd rfl (Or.inl rfl) (pe_cal (c_law_draw T) (hr.mono (by decide)) (by rfl) T.g_law_draw (pa_cons (pv 0) (pa_cons (pe_callB (call_max2 rfl) (by rfl) T.b_max bt_max (pa_cons pe_int (pa_cons (pe_callB (kcall_len_seq K) (by rfl) T.b_len bt_len (pa_cons (pv 5) pa_nil)) pa_nil))) pa_nil))))
      (pss_cons (ps_for PassesOwn.never rfl (kpi_list K (pe_op op_cat (pe_slice (ksl_list K) (pv 5) (po_some (pv 3)) po_none) (pe_slice (ksl_list K) (pv 5) po_none (po_some (pv 3))))) (pg_name (i := 2) sc_law_right.nd rfl (Or.inl rfl))
        (pss_cons (ps_set (i := 8) sc_law_right.nd rfl (Or.inl rfl) (pe_met (pv 8) (im_Gathered_with_hole T) (c_Gathered_with_hole T G) (hr.mono (by decide)) (pa_cons (pv 2) pa_nil)))
        (pss_cons (ps_par (i := 11) (j := 12) rfl sc_law_right.nd rfl rfl (by decide) rfl rfl (pa_cons (pe_cal (c_law_told_round T) (hr.mono (by decide)) (by rfl) T.g_law_told_round (pa_cons (pv 1) (pa_cons (pv 8) (pa_cons (pv 6) pa_nil)))) (pa_cons (pe_cal (c_is_safe T) (hr.mono (by decide)) (by rfl) T.g_is_safe (pa_cons (pv 8) pa_nil)) pa_nil)) (by rfl))
        (pss_cons (ps_if (PW.pt (pw_or (pt_not (pt_val (pe_callB (kcr_all K rfl) (by rfl) T.b_all bt_all (pa_cons (pe_lc (own := [("_law_thing_here", 13)]) (g := gName 13) (tt := tYes) rfl sc_law_right.nd (kpi_list K (pv 11)) (blkOk_by (N := n_law_right) (sc := defScope s_law_right) (by decide +kernel)) (fun _ _ _ _ _ => (pg_name (i := 13) sc_law_right.nd rfl (Or.inl rfl))) (fun _ _ _ _ _ => pts_nil) (fun _ _ _ _ _ => (pe_cmpR (kop_inD K (room65 (hr.mono (by decide)))) (pv 13) (pv 9) (by rfl)))) pa_nil)))) (pw_or1 (PW.pt (pw_and (pt_val (pv 10)) (pw_and1 (pt_not (pt_val (pv 12)))))))))
          (pss_one (ps_ret pe_bl)) pss_nil)
        (pss_one (ps_asg (pe_tup (pa_cons (pv 11) (pa_cons (pv 12) pa_nil))) (kpg_tup K (n := 2) rfl (pgs_cons (pg_name (i := 9) sc_law_right.nd rfl (Or.inr rfl)) (pgs_cons (pg_name (i := 10) sc_law_right.nd rfl (Or.inl rfl)) pgs_nil)))))))))
      (pss_one (ps_ret (pe_and (pe_cmpR (op_eqNil K hr.units0) (pv 9) (pe_lst pa_nil) (nomark _)) (pe_one (pe_cmpR (op_eqNets T (hr.mono (by decide))) (pv 8) (pv 7) (nomark _))))))))))))))), ?_⟩
    refine ⟨_, rfl, a, rfl, hp, fun H1 q wide base turn ps g1 nq hd d => ?_⟩
    have l6 : ps.length ≤ 6 := by have := d.len; rwa [List.length_map] at this
    refine ⟨_, rfl, q, wide, turn, base, ps, rfl, hd.mono off_le, d, fun H2 p its e2 np hpm nok hn => ?_⟩
    refine ⟨_, rfl, q, wide, turn, base, ps, rfl, (hd.mono off_le).mono e2, l6, fun H3 r ts e3 nr hl hts => ?_⟩
    have g3 := (g1.step e2).step e3
    refine ⟨_, rfl, _, rfl, a, q, wide, turn, base, ps, rfl, g3.2, (hd.mono (off_mono e2)).mono (off_mono e3), d, fun H4 c cs ys g4 nc hc hcs l42 okc => ?_⟩
    have hn4 : NetAt K (off a H4) p wide its := (net_offP (hn.mono e3) g3.2).mono g4.1
    have hl4 : off a H4 r = some (.lst (sL ts)) := g4.1 _ _ (off_of hl ((g1.step e2).2.new nr))
    have hd4 : DealAt (off a H4) q wide base turn ps := ((hd.mono (off_mono e2)).mono (off_mono e3)).mono g4.1
    have tk : TopsOk its ts := tops_of hpm hts
    have lk : Like ps its := like_of hpm
    have gg4 : Go a H H4 := g3.trans g4
    have lt6 : ts.length ≤ 6 := by
      rw [hts.length_eq, List.length_map]
      exact Nat.le_trans (List.length_filter_le _ _) l6
    clear hn hl hd hpm g3 g4 e2 e3 g1 np nr nq
    have cas : ∀ {H' : Hp} {z : Addr} {S : List Str} {m : Nat}, (∀ n ∈ S, n ∈ ts) → m ≠ 0 → m ≤ 2 → Same (off a H4) H' → NetAt K H' z wide (its.map (setK S m)) → Cased K H' q z c wide turn base ps (its.map (setK S m)) cs ys :=
      fun hS h0 h2 e hz => ⟨hd4.mono e, d, hz, netok_map nok (lk_set nok tk hS h0 h2), like_set lk (lk_set nok tk hS h0 h2), e _ _ hc, paired_mono hcs fun c v h => h.mono e, l42, okc⟩
    refine ⟨_, _, _, rfl, ?_⟩
    refine ⟨_, rfl, _, rfl, _, _, rfl, ?_⟩
    refine ⟨_, rfl, r, rfl, ⟨_, SqL.of (off_le _ _ hl4)⟩, ?_⟩
    have base0 : its = its.map (setK (ts.take 0) 2) := by rw [List.take_zero, setK_nil]
    have base1 : its = its.map (setK (ts.take 0) 1) := by rw [List.take_zero, setK_nil]
    refine forG ts.length (fun i σ H' => Same H4 H' ∧ ∃ psh pl u, NetAt K H' psh wide (its.map (setK (ts.take i) 2)) ∧ NetAt K H' pl wide (its.map (setK (ts.take i) 1)) ∧ σ = [some (.ref a), some (.ref q), u, none, some (.ref p), some (.ref r), some (.ref c), some (.ref psh), some (.ref pl), none, none, none, none, none])
      ⟨Same.refl _, p, p, none, by rw [← base0]; exact hn4.mono off_le, by rw [← base1]; exact hn4.mono off_le, rfl⟩ ?_ ?_ ?_ ?_
    · rintro i σ H' hi ⟨e, _⟩; exact itl_go (SqL.of (e _ _ (off_le _ _ hl4))) (by rw [sL_len]; exact hi)
    · rintro σ H' ⟨e, _⟩; exact itl_stop (SqL.of (e _ _ (off_le _ _ hl4))) (sL_len _)
    · rintro i x σ H5 _ hi ⟨e5, psh, pl, u, hs, hlo, rfl⟩ ⟨rfl, hx⟩
      rename Hp => H5
      obtain ⟨n, hni⟩ : ∃ n, ts[i]? = some n := ⟨_, List.getElem?_eq_getElem hi⟩
      have hx' := hx _ (SqL.of (e5 _ _ (off_le _ _ hl4)))
      rw [sL, List.getElem?_map, hni] at hx'
      cases hx'
      have hS : ∀ n ∈ ts.take i, n ∈ ts := fun n h => List.mem_of_mem_take h
      have nts : n ∈ ts := List.mem_of_getElem? hni
      obtain ⟨j1, hj1, en1, hk1⟩ := (tops_set nok tk hS (k := 2) (by decide) (by decide)).mem n nts
      obtain ⟨j2, hj2, en2, hk2⟩ := (tops_set nok tk hS (k := 1) (by decide) (by decide)).mem n nts
      refine ⟨_, rfl, net_met hs (by decide +kernel) ⟨_, rfl, psh, wide, _, j1, by rw [en1], hs, netok_map nok (lk_set nok tk hS (by decide) (by decide)), hj1, hk1, fun H6 r6 e6 n6 h6 => ?_⟩⟩
      refine ⟨_, rfl, net_met (hlo.mono e6) (by decide +kernel) ⟨_, rfl, pl, wide, _, j2, by rw [en2], hlo.mono e6, netok_map nok (lk_set nok tk hS (by decide) (by decide)), hj2, hk2, fun H7 r7 e7 n7 h7 => ?_⟩⟩
      rw [en1, map_shut, ← take_snoc hni] at h6
      rw [en2, map_open, ← take_snoc hni] at h7
      exact ⟨_, _, rfl, (e5.trans e6).trans e7, r6, r7, _, h6.mono e7, h7, rfl⟩
    rintro σ H5 ⟨e5, psh, pl, u, hs, hlo, rfl⟩
    rw [List.take_length] at hs hlo
    have hT : ∀ n ∈ ts, n ∈ ts := fun _ h => h
    have f5 : Same (off a H4) H5 := off_le.trans e5
    have okS : NetOk wide (its.map (setK ts 2)) := netok_map nok (lk_set nok tk hT (by decide) (by decide))
    have okL : NetOk wide (its.map (setK ts 1)) := netok_map nok (lk_set nok tk hT (by decide) (by decide))
    have shut := set_shut tk
    have noring : ∀ wd x h, ¬ Rings (step (its.map (setK ts 2)) wd x) h := shut_safe okS.uniq (fun it hi => (okS.ok it hi).way) shut
    refine ⟨_, rfl, _, rfl, _, rfl, q, psh, c, wide, turn, base, ps, _, cs, ys, rfl, cas hT (by decide) (by decide) f5 hs, shut, fun H6 e6 => ⟨true, rfl, iteF ?_⟩⟩
    refine ⟨_, rfl, psh, wide, _, rfl, hs.mono e6, okS, fun H7 b e7 hb => ?_⟩
    have b1 : b = true := hb.mpr fun wd x _ h => noring wd x h
    subst b1
    refine ⟨true, rfl, iteF ?_⟩
    have f7 := (f5.trans e6).trans e7
    have hlo7 := (hlo.mono e6).mono e7
    have hs7 := (hs.mono e6).mono e7
    have gg7 : Go a H H7 := ((gg4.step e5).step e6).step e7
    refine ⟨_, rfl, _, rfl, _, rfl, q, pl, c, wide, turn, base, ps, _, cs, ys, rfl, cas hT (by decide) (by decide) f7 hlo7, fun H8 rb tb zb e8 nb hbL hbP l15 mb => ?_⟩
    refine ⟨_, rfl, pl, wide, _, rfl, hlo7.mono e8, okL, fun H9 b e9 hb => ?_⟩
    refine ⟨le_line (by show (2 : Nat) ≤ 100000; decide), fun t nt => ?_⟩
    have e10 : Same H9 (upd H9 t (.tup [.ref rb, .bl b])) := same_upd nt
    refine ⟨_, _, rfl, .inl (.inl upd_same), rfl, _, _, rfl, _, _, rfl, rfl, ?_⟩
    generalize upd H9 t (.tup [.ref rb, .bl b]) = H10 at e10 ⊢
    have rb8 : H7 rb = none := nb
    have hbn : b = true → zb = [] := fun z => zs_nil hbP (round_none (hb.mp z) okc mb)
    have hb10 := (e9.trans e10) _ _ hbL
    refine nx_mk (if_no (fun Q' q0 => ?_) fun H11 e11 => ?_)
    · refine ⟨_, rfl, b, rfl, ?_⟩
      cases b with
      | false => exact iteF (q0 _ (Same.refl _))
      | true =>
        refine iteT ⟨_, rfl, le_line (by show (0 : Nat) ≤ 100000; decide), fun l nl => ⟨rb, l, _, rfl, rfl, SqL.of (same_upd nl _ _ hb10), SqL.of upd_same, ?_⟩⟩
        rw [hbn rfl]
        exact ⟨false, rfl, q0 _ (same_upd nl)⟩
    have s11 : Same H4 H11 := ((((((e5.trans e6).trans e7).trans e8).trans e9).trans e10).trans e11)
    have gg11 : Go a H H11 := gg4.step s11
    have s8 : Same H8 H11 := (e9.trans e10).trans e11
    have s7 : Same H7 H11 := e8.trans s8
    refine ⟨_, rfl, _, rfl, r, _, rfl, .inl (SqL.of (s11 _ _ (off_le _ _ hl4))), _, _, rfl, a, max 1 ts.length, ?_, gg11.2, by omega, by omega, fun H12 dd g12 hdd => ?_⟩
    · rw [sL_len]
      congr 3
      split <;> omega
    have dle : dd ≤ ts.length ∨ (dd = 0 ∧ ts.length = 0) := by omega
    have dle : dd ≤ ts.length := by omega
    have gg12 : Go a H H12 := gg11.trans g12
    have f12 : Same (off a H4) (off a H12) := (off_mono s11).trans g12.1
    have lo12 : NetAt K (off a H12) pl wide (its.map (setK ts 1)) := (net_offP (hlo7.mono s7) gg11.2).mono g12.1
    have sh12 : NetAt K (off a H12) psh wide (its.map (setK ts 2)) := (net_offP (hs7.mono s7) gg11.2).mono g12.1
    have b12 : off a H12 rb = some (.lst zb) := g12.1 _ _ (off_of (s8 _ _ hbL) (gg7.2.new nb))
    have p12 : Paired (TripV (off a H12)) tb zb := paired_mono hbP fun c v h => (trip_offP (h.mono s8) gg11.2).mono g12.1
    have hl12 : H12 r = some (.lst (sL ts)) := off_le _ _ (f12 _ _ hl4)
    refine ⟨_, rfl, _, rfl, _, rfl, r, _, rfl, SqL.of hl12, fun a1 m1 => ?_⟩
    rw [cut_from (by rw [sL_len]; exact dle)]
    refine ⟨_, rfl, _, rfl, _, rfl, r, _, rfl, SqL.of (same_upd m1 _ _ hl12), fun a2 m2 => ?_⟩
    rw [cut_to]
    refine ⟨a1, a2, _, _, rfl, rfl, same_upd m2 _ _ upd_same, upd_same, le_line (by rw [List.length_drop, List.length_take, sL_len]; omega), fun a3 m3 => ?_⟩
    have eus : (sL ts).drop dd ++ (sL ts).take dd = sL (ts.drop dd ++ ts.take dd) := by simp [sL, List.map_drop, List.map_take]
    rw [eus]
    have pus : (ts.drop dd ++ ts.take dd).Perm ts := rot_perm ts dd
    generalize ts.drop dd ++ ts.take dd = us at pus ⊢
    have s13 : Same H12 (upd (upd (upd H12 a1 (.lst ((sL ts).drop dd))) a2 (.lst ((sL ts).take dd))) a3 (.lst (sL us))) := ((same_upd m1).trans (same_upd m2)).trans (same_upd m3)
    have hu13 : (upd (upd (upd H12 a1 (.lst ((sL ts).drop dd))) a2 (.lst ((sL ts).take dd))) a3 (.lst (sL us))) a3 = some (.lst (sL us)) := upd_same
    generalize upd (upd (upd H12 a1 (.lst ((sL ts).drop dd))) a2 (.lst ((sL ts).take dd))) a3 (.lst (sL us)) = H13 at s13 hu13 ⊢
    refine ⟨a3, rfl, ⟨_, SqL.of hu13⟩, ?_⟩
    have o13 : Same (off a H12) H13 := off_le.trans s13
    have f13 : Same (off a H4) H13 := f12.trans o13
    have tkL : TopsOk (its.map (setK ts 1)) ts := tops_set nok tk hT (by decide) (by decide)
    have lkL : Like ps (its.map (setK ts 1)) := like_set lk (lk_set nok tk hT (by decide) (by decide))
    have usT : ∀ n ∈ us, n ∈ ts := fun n h => pus.mem_iff.mp h
    have l0 : its.map (setK ts 1) = (its.map (setK ts 1)).map (setK (us.take 0) 2) := by rw [List.take_zero, setK_nil]
    generalize eL : its.map (setK ts 1) = L0 at okL hlo hlo7 mb hb lo12 tkL lkL l0 ⊢
    have casL : ∀ {H' : Hp} {z : Addr} {S : List Str}, (∀ n ∈ S, n ∈ ts) → Same (off a H4) H' → NetAt K H' z wide (L0.map (setK S 2)) → Cased K H' q z c wide turn base ps (L0.map (setK S 2)) cs ys :=
      fun hS e hz => ⟨hd4.mono e, d, hz, netok_map okL (lk_set okL tkL hS (by decide) (by decide)), like_set lkL (lk_set okL tkL hS (by decide) (by decide)), e _ _ hc, paired_mono hcs fun c v h => h.mono e, l42, okc⟩
    refine forG us.length (fun i σ H' => Same H13 H' ∧ ∃ (pl rb : Addr) (tb : List (List Str × Str × Str)) (zb : List V) (b : Bool) (u v w : Option V), NetAt K H' pl wide (L0.map (setK (us.take i) 2)) ∧ H' rb = some (.lst zb) ∧ Paired (TripV H') tb zb ∧ tb.length ≤ 1512 ∧
        (∀ c, c ∈ tb ↔ Round ps (L0.map (setK (us.take i) 2)) cs c) ∧ (b = true ↔ Safe (L0.map (setK (us.take i) 2)) wide) ∧
        σ = [some (.ref a), some (.ref q), u, some (.int (dd : Int)), some (.ref p), some (.ref r), some (.ref c), some (.ref psh), some (.ref pl), some (.ref rb), some (.bl b), v, w, none])
      ⟨Same.refl _, pl, rb, tb, zb, b, u, none, none, by rw [← l0]; exact lo12.mono o13, o13 _ _ b12, paired_mono p12 fun c v h => h.mono o13, l15, by rw [← l0]; exact mb, by rw [← l0]; exact hb, rfl⟩ ?_ ?_ ?_ ?_
    · rintro i σ H' hi ⟨e, _⟩; exact itl_go (SqL.of (e _ _ hu13)) (by rw [sL_len]; exact hi)
    · rintro σ H' ⟨e, _⟩; exact itl_stop (SqL.of (e _ _ hu13)) (sL_len _)
    · clear hlo hlo7 lo12 hbL hb10 b12 p12 mb hb hbP l15 hbn
      rintro i x σ H14 _ hi ⟨e14, pl, rb, tb, zb, b, u, v, w, hlo, hbL, hbP, l15, mb, hb, rfl⟩ ⟨rfl, hx⟩
      rename Hp => H14
      obtain ⟨n, hni⟩ : ∃ n, us[i]? = some n := ⟨_, List.getElem?_eq_getElem hi⟩
      have hx' := hx _ (SqL.of (e14 _ _ hu13))
      rw [sL, List.getElem?_map, hni] at hx'
      cases hx'
      have hS : ∀ n ∈ us.take i, n ∈ ts := fun n h => usT n (List.mem_of_mem_take h)
      have hS' : ∀ n ∈ us.take (i + 1), n ∈ ts := fun n h => usT n (List.mem_of_mem_take h)
      have nts : n ∈ ts := usT n (List.mem_of_getElem? hni)
      have tki := tops_set okL tkL hS (k := 2) (by decide) (by decide)
      have oki : NetOk wide (L0.map (setK (us.take i) 2)) := netok_map okL (lk_set okL tkL hS (by decide) (by decide))
      have oki' : NetOk wide (L0.map (setK (us.take (i + 1)) 2)) := netok_map okL (lk_set okL tkL hS' (by decide) (by decide))
      have esh : (L0.map (setK (us.take i) 2)).map (shutIt n) = L0.map (setK (us.take (i + 1)) 2) := by rw [map_shut, take_snoc hni]
      have gth := TopsOk.gath oki tki nts
      obtain ⟨j, hj, en, hk⟩ := tki.mem n nts
      refine ⟨_, rfl, net_met hlo (by decide +kernel) ⟨_, rfl, pl, wide, _, j, by rw [en], hlo, oki, hj, hk, fun H15 r15 e15 n15 h15 => ?_⟩⟩
      rw [en, esh] at h15
      have f15 : Same (off a H4) H15 := (f13.trans e14).trans e15
      refine ⟨_, rfl, _, rfl, _, rfl, q, r15, c, wide, turn, base, ps, _, cs, ys, rfl, casL hS' f15 h15, fun H16 rl tl zl e16 nl hll hlP l16 ml => ?_⟩
      refine ⟨_, rfl, r15, wide, _, rfl, h15.mono e16, oki', fun H17 b' e17 hb' => ?_⟩
      refine ⟨_, _, rfl, ?_⟩
      have e14' : Same H14 H17 := (e15.trans e16).trans e17
      have hl17 := e17 _ _ hll
      have rls : ∀ c, c ∈ tl → c ∈ tb := fun c h => (mb c).mpr (by
        obtain ⟨y1, y2, y3⟩ := (ml c).mp h
        rw [← esh] at y3
        exact ⟨y1, y2, rings_shut oki.uniq gth y3⟩)
      have sfs : b = true → b' = true := fun z => hb'.mpr (by rw [← esh]; exact safe_shut oki.uniq gth (hb.mp z))
      have okb : ∀ c ∈ tb, OkTrip c := fun c h => ok_trip d okc ((mb c).mp h)
      refine nx_mk (if_no (fun Q' q0 => ?_) fun H18 e18 => ?_)
      · refine ⟨_, rfl, rl, rfl, ⟨_, SqL.of hl17⟩, ?_⟩
        have lt := paired_len hlP
        refine lcY tl (fun _ v _ => v = .bl true) (by omega) (fun _ _ _ _ _ h => h) ?_ ?_ ?_ ?_
        · intro j H' hj e; exact itl_go (SqL.of (e _ _ hl17)) (by omega)
        · intro H' e; exact itl_stop (SqL.of (e _ _ hl17)) lt.symm
        · intro j c' D x G1 G2 hd' nD hD e y Ry Rn hy
          obtain ⟨rfl, hx⟩ := y
          have up : Same H17 G2 := e.trans off_le
          have hx' := hx _ (SqL.of (up _ _ hl17))
          obtain ⟨v', hv', tv⟩ := paired_getL hlP hd'
          rw [hv'] at hx'
          cases hx'
          have mc := rls c' (List.mem_of_getElem? hd')
          have tv' : TripV G2 c' x := tv.mono (e17.trans up)
          have tbs : Paired (TripV G2) tb zb := paired_mono hbP fun c v h => h.mono (e14'.trans up)
          refine ⟨rfl, _, rfl, _, rfl, tripD c', tb.map tripD, trip_dp tv', .lst (SqL.of (up _ _ (e14' _ _ hbL))) (trips_dp tbs), trip_shaped (okb _ mc), trips_shaped okb, ?_⟩
          exact hy _ _ (Same.refl _) (congrArg V.bl (trip_in (okb _ mc) mc))
        intro D H18 zs nD e hD hpz
        have ey := paired_bl (bf := fun _ : List Str × Str × Str => true) hpz
        subst ey
        refine ⟨D, _, rfl, SqL.of hD, _, rfl, ?_⟩
        have : (tl.map fun _ => true).all id = true := by rw [List.all_map]; exact List.all_eq_true.mpr fun _ _ => rfl
        rw [this]
        have e18 : Same H17 H18 := e.trans off_le
        refine iteF ⟨_, rfl, b, rfl, ?_⟩
        cases b with
        | false => exact iteF (q0 _ e18)
        | true =>
          refine iteT ⟨_, rfl, b', rfl, ?_⟩
          rw [sfs rfl]
          exact q0 _ e18
      · refine ⟨_, rfl, _, rfl, le_line (by show (2 : Nat) ≤ 100000; decide), fun t nt => ?_⟩
        have e19 : Same H18 (upd H18 t (.tup [.ref rl, .bl b'])) := same_upd nt
        refine ⟨_, _, rfl, .inl (.inl upd_same), rfl, _, _, rfl, _, _, rfl, rfl, ?_⟩
        have e20 := (e17.trans e18).trans e19
        exact ⟨((e14.trans e14').trans e18).trans e19, r15, rl, tl, zl, b', _, _, _, h15.mono (e16.trans e20), e20 _ _ hll, paired_mono hlP fun c v h => h.mono e20, l16, ml, hb', rfl⟩
    · clear hlo hlo7 lo12 hbL hb10 b12 p12 mb hb hbP l15 hbn
      rintro σ H14 ⟨e14, pl, rb, tb, zb, b, u, v, w, hlo, hbL, hbP, l15, mb, hb, rfl⟩
      rw [List.take_length] at hlo mb hb
      have eend : L0.map (setK us 2) = its.map (setK ts 2) := by rw [← eL]; exact set_twice fun n => pus.mem_iff
      rw [eend] at hlo mb hb
      have z0 := zs_nil hbP (round_none (w := wide) (fun wd x _ h => noring wd x h) okc mb)
      subst z0
      refine ⟨_, rfl, le_line (by show (0 : Nat) ≤ 100000; decide), fun l nl => ⟨rb, l, _, rfl, rfl, SqL.of (same_upd nl _ _ hbL), SqL.of upd_same, _, rfl, iteT ?_⟩⟩
      have e15 : Same H14 (upd H14 l (.lst [])) := same_upd nl
      have o15 : Same (off a H12) H14 := o13.trans e14
      refine ⟨_, rfl, _, rfl, ⟨pl, psh, rfl, rfl, wide, _, hlo.mono e15, (sh12.mono o15).mono e15, okS⟩, fun H' e' => ?_⟩
      exact k _ ((gg12.step (s13.trans e14)).step (e15.trans e'))
end
end Cw

/-! CwEc -/
set_option Elab.async false
set_option linter.all false
set_option maxRecDepth 100000
set_option maxHeartbeats 4000000
namespace Cw
open PySem PySem.Spec PyProof.Rows L2
section
variable {P : Program} {w : World} {K : PySem.W.Frag} {mg : Str → Option Value} {base : Heap}
/-! the law -/
def sp_law (K : PySem.W.Frag) : Sp := fun vs H Q _ => ∃ (s : Addr) (xs : List Int), vs = [.ref s] ∧ SqL K H s (xs.map V.int) ∧ ∀ H', Q (.bl true) H'
theorem calAll {x qual : Str} {st : Stmt} {f : Addr} {N ps : List Str} {k : Nat} {sp : Sp} (D : DefAt K x qual st 0 f) (S : FnScope N ps (defScope st))
    (hb : ∀ (kV doc pm : Value) (an : Option Addr) (cdv ct : Value) (us : List Value), us.length = ps.length → bindArgs (PySem.W.fnOf x qual (defArgs st) (defBody st) (defScope st) .none kV doc pm an cdv ct) ⟨us, []⟩ = pure (ps.zip us))
    (len : ∀ vs H Q E, sp vs H Q E → vs.length = ps.length)
    (body : ∀ (base : Heap) (cdv : Value) (A : Around) (outer : List Env) (s : Shared) (H : Hp) (vs : List V) (Q : VK) (E : XK), Room k (A.deeper (envOfC qual (defScope st) s.heap.objs.size f cdv)) → sp vs H Q E →
      ∃ t, PSs (cxOf CX0 P w K mg base N qual (defScope st) f cdv A outer s H E).nox (defBody st) t ∧ t { nx := fun _ H' => Q .non H', rt := Q } (start N vs) H) :
    ∃ fd, (∀ base, FnOk P w K mg base CX0 (k + 1) f fd ps sp) ∧ ∀ (s : Shared) (us : List Value), us.length = ps.length → BindsTo s fd ⟨us, []⟩ (ps.zip us) := by
  obtain ⟨dvs, fd, hl, F⟩ := D
  have e : dvs = [] := List.length_eq_zero_iff.mp hl
  subst e
  refine ⟨fd, fun base => F.ok S len fun cdv A outer s H vs Q E hr h => ?_, F.bindsA hb⟩
  obtain ⟨t, h1, h2⟩ := body base cdv A outer s H vs Q E hr h
  exact ⟨t, h1.nox, h2⟩
abbrev n_law : List Str := ["_law_script", "_law_k"]
theorem sc_law : FnScope n_law ["_law_script"] (defScope s_law) := ⟨rfl, rfl, rfl, by decide +kernel, rfl, by decide +kernel, by decide +kernel⟩
theorem c_law (T : Txt K mg) (G : GiniAt P K) : ∃ fd, (∀ base, FnOk P w K mg base CX0 19 (He.ga K "law") fd ["_law_script"] (sp_law K)) ∧ ∀ (s : Shared) (us : List Value), us.length = 1 → BindsTo s fd ⟨us, []⟩ ([("_law_script" : Str)].zip us) := by
  refine calAll T.d_law sc_law (fun _ _ _ _ _ _ us hl => match us, hl with | [_], _ => rfl) (fun vs H Q E h => ?_) (fun base cdv A outer s H vs Q E hr h => ?_)
  · obtain ⟨_, _, rfl, _⟩ := h; rfl
  · obtain ⟨s0, xs, rfl, hs, k⟩ := h
    refine ⟨_, (pss_one (ps_ret (pe_callB (kcr_all K rfl) (by rfl) T.b_all bt_all (pa_cons (pe_lc (own := [("_law_k", 1)]) (g := gName 1) (tt := tYes) rfl sc_law.nd (pi_range1 (by rfl) T.b_range (pa_cons (pe_callB (call_max2 rfl) (by rfl) T.b_max bt_max (pa_cons pe_int (pa_cons (pe_callB (call_min2 rfl) (by rfl) T.b_min bt_min (pa_cons pe_int (pa_cons (pe_callB (kcall_len_seq K) (by rfl) T.b_len bt_len (pa_cons (pv 0) pa_nil)) pa_nil))) pa_nil))) pa_nil)) (blkOk_by (N := n_law) (sc := defScope s_law) (by decide +kernel)) (fun _ _ _ _ _ => (pg_name (i := 1) sc_law.nd rfl (Or.inl rfl))) (fun _ _ _ _ _ => pts_nil) (fun _ _ _ _ _ => (pe_cal (c_law_right T G) (hr.mono (by decide)) (by rfl) T.g_law_right (pa_cons (pe_cal (c_law_pot T) (hr.mono (by decide)) (by rfl) T.g_law_pot (pa_cons (pv 0) (pa_cons (pv 1) pa_nil))) pa_nil)))) pa_nil)))), ?_⟩
    have hl : ∀ z : Int, 0 ≤ z → ∃ n : Nat, (if (if z < 3 then z else 3) > 1 then (if z < 3 then z else 3) else 1) = (n : Int) ∧ n ≤ 3 := fun z h => by
      by_cases h3 : z < 3
      · rw [if_pos h3]
        by_cases h1 : z > 1
        · rw [if_pos h1]; exact ⟨z.toNat, by omega, by omega⟩
        · rw [if_neg h1]; exact ⟨1, rfl, by omega⟩
      · rw [if_neg h3]; exact ⟨3, rfl, by omega⟩
    obtain ⟨n, en, n3⟩ := hl ((xs.map V.int).length : Nat) (by omega)
    refine ⟨_, rfl, s0, _, rfl, .inl hs, _, _, rfl, _, _, rfl, _, rfl, ?_⟩
    rw [en]
    refine ⟨by omega, by omega, ?_⟩
    have ln : ((n : Nat) : Int).toNat = n := Int.toNat_natCast n
    rw [ln]
    refine lcY (List.range n) (fun _ v _ => v = .bl true) (by rw [List.length_range]; omega) (fun _ _ _ _ _ h => h) ?_ ?_ ?_ ?_
    · intro j H' hj _; rw [List.length_range] at hj; exact hj
    · intro H' _; rw [List.length_range]; exact Nat.le_refl _
    · intro j d D x G1 G2 hd nD hD e y Ry Rn hy
      obtain ⟨rfl, rfl⟩ := y
      have hj : j < n := by have := (List.getElem?_eq_some_iff.mp hd).1; rwa [List.length_range] at this
      have ej : (0 : Int) + (j : Nat) = ((j : Nat) : Int) := by omega
      rw [ej]
      refine ⟨rfl, _, rfl, _, rfl, s0, xs, j, rfl, sql_same (e.trans off_le) hs, by omega, fun H2 a e2 na hp => ⟨a, rfl, hp, fun H3 g => hy _ H3 (fun b o h => ?_) rfl⟩⟩
      exact off_le _ _ (g.1 _ _ (off_of (e2 _ _ h) (fun z => by rw [z, na] at h; cases h)))
    intro D H5 ys nD e hD hp
    have ey := paired_bl (bf := fun _ : Nat => true) hp
    subst ey
    refine ⟨D, _, rfl, SqL.of hD, ?_⟩
    have : ((List.range n).map fun _ => true).all id = true := by rw [List.all_map]; exact List.all_eq_true.mpr fun _ _ => rfl
    rw [this]
    exact k _
end
end Cw

/-! CwEnd -/
set_option Elab.async false
set_option linter.all false
set_option maxRecDepth 100000
set_option maxHeartbeats 4000000
/-! From the facts to Txt and GiniAt. Printed by wip/gen_head.py. -/
namespace Cw
open PySem PySem.Spec PyProof.Rows L2
theorem allAt {α : Type} {l : List α} {p : α → Bool} (h : l.all p = true) (i : Nat) {x : α} (e : l[i]? = some x := by rfl) : p x = true := List.all_eq_true.mp h x (List.mem_of_getElem? e)
section
variable {K : PySem.W.Frag} {h : Heap} {mg : Str → Option Value}
theorem kMeth_ok {C m D : Str} (c : kMeth C m D K = true) : Meth K (He.ga K C) m (He.ma K (He.ga K D) m) := by
  obtain ⟨c1, c⟩ := He.ba c
  obtain ⟨c2, c3⟩ := He.ba c
  exact ⟨He.eqO_ok c1, c2, c3⟩
theorem kIns_ok {C : Str} (c : kIns C K = true) : C8.InsC K (He.ga K C) := by
  obtain ⟨c1, c⟩ := He.ba c
  obtain ⟨c2, c⟩ := He.ba c
  obtain ⟨c3, c⟩ := He.ba c
  obtain ⟨c4, c⟩ := He.ba c
  obtain ⟨c5, c6⟩ := He.ba c
  exact ⟨He.cls_ok c1, He.eqO_ok c2, He.eqO_ok c3, of_decide_eq_true c4, of_decide_eq_true c5, of_decide_eq_true c6⟩
theorem kWord_ok {C w : Str} (c : kWord C w K = true) : ∃ u, Con K (He.ga K C) "WORD" (.str w) u := by
  unfold kWord at c
  split at c
  · rename_i u q
    obtain ⟨c1, c⟩ := He.ba c
    obtain ⟨c2, c3⟩ := He.ba c
    exact ⟨u, q, He.relB_ok c1, He.eqO_ok c2, of_decide_eq_true c3⟩
  · cases c
theorem kKit_ok {x y : Str} {b : Bool} (c : kKit x y b K = true) : PySem.W.kitOne K (.ref (He.ga K x)) (.ref (He.ga K y)) = some b := of_decide_eq_true c
theorem kMk_ok {C D : Str} (c : kMk C D K = true) : Mk K (He.ga K C) (He.ma K (He.ga K D) "__init__") := by
  obtain ⟨c1, c⟩ := He.ba c
  obtain ⟨c2, c⟩ := He.ba c
  obtain ⟨c3, c4⟩ := He.ba c
  exact ⟨c1, He.eqO_ok c2, c3, c4⟩
theorem kItem_ok {C : Str} (c : kItem C K = true) : ItemC K (He.ga K C) C := by
  obtain ⟨c1, c⟩ := He.ba c
  obtain ⟨c2, c⟩ := He.ba c
  obtain ⟨c3, c⟩ := He.ba c
  obtain ⟨c4, c⟩ := He.ba c
  obtain ⟨c5, c⟩ := He.ba c
  obtain ⟨c6, c7⟩ := He.ba c
  exact ⟨kIns_ok c1, He.noat_ok (allAt c2 0), He.noat_ok (allAt c2 1), He.noat_ok (allAt c2 2), He.noat_ok (allAt c2 3), He.noat_ok (allAt c2 4), He.noat_ok (allAt c2 5), kMeth_ok c3, kMeth_ok c4, kMeth_ok c5, kWord_ok c6, kKit_ok c7⟩
theorem dAt (c : He.SaysD [] fns K) (i n : Nat) {d : He.DefD} (e : fns[i]? = some d := by rfl) (hn : d.dfl.length = n := by rfl) (hk : d.kwd = [] := by rfl) :
    ∃ (dvs : List V) (fd : FuncData), dvs.length = n ∧ FunD K d.name d.qual d.params d.body d.scope dvs [] (He.fAd K d.at_) fd := by
  obtain ⟨fd, F⟩ := c.def_ i e
  have ek : d.kws K = [] := by unfold He.DefD.kws; rw [hk]; rfl
  rw [ek] at F
  exact ⟨_, fd, by unfold He.DefD.dvs; rw [List.length_map]; exact hn, F⟩
theorem txt (X : K.In h) (G : h.Ns mainGlobals mg) (c : obsC K = valC) : Txt K mg := by
  have cA : ckA K = true := congrArg (fun z : AlC => z.1) c
  have cD : He.SaysD [] fns K := congrArg (fun z : AlC => z.2.2) c
  obtain ⟨k0, cA⟩ := He.ba cA
  obtain ⟨k1, cA⟩ := He.ba cA
  obtain ⟨k2, cA⟩ := He.ba cA
  obtain ⟨k3, cA⟩ := He.ba cA
  obtain ⟨k4, _⟩ := He.ba cA
  obtain ⟨k1f, k1⟩ := He.ba k1
  obtain ⟨k1i, k1⟩ := He.ba k1
  obtain ⟨k1s, k1⟩ := He.ba k1
  obtain ⟨k1k, k1e⟩ := He.ba k1
  obtain ⟨k2a, k2⟩ := He.ba k2
  obtain ⟨k2b, k2c⟩ := He.ba k2
  obtain ⟨k3k, k3⟩ := He.ba k3
  obtain ⟨k3a, k3⟩ := He.ba k3
  obtain ⟨k3b, k3⟩ := He.ba k3
  obtain ⟨k3c, k3⟩ := He.ba k3
  obtain ⟨k3d, k3e⟩ := He.ba k3
  obtain ⟨k4a, k4⟩ := He.ba k4
  obtain ⟨k4b, k4⟩ := He.ba k4
  obtain ⟨k4c, k4d⟩ := He.ba k4
  exact {
    d_is_integer := dAt (d := q_is_integer) cD 0 0,
    d_is_list := dAt (d := q_is_list) cD 1 0,
    d_is_width := dAt (d := q_is_width) cD 2 0,
    d_is_bits := dAt (d := q_is_bits) cD 3 0,
    d_is_name := dAt (d := q_is_name) cD 4 0,
    d_is_address := dAt (d := q_is_address) cD 5 0,
    d_want_width := dAt (d := q_want_width) cD 6 0,
    d_want_address := dAt (d := q_want_address) cD 7 0,
    d_size_of := dAt (d := q_size_of) cD 8 0,
    d_begin_of := dAt (d := q_begin_of) cD 9 0,
    d_address_of := dAt (d := q_address_of) cD 10 0,
    d_cell_rows := dAt (d := q_cell_rows) cD 11 0,
    d_last_hop := dAt (d := q_last_hop) cD 12 0,
    d_is_way := dAt (d := q_is_way) cD 13 0,
    d_want_head := dAt (d := q_want_head) cD 14 0,
    d_want_members := dAt (d := q_want_members) cD 15 0,
    d_Item_init := dAt (d := q_Item_init) cD 16 1,
    d_Item_way := dAt (d := q_Item_way) cD 17 0,
    d_Item_sees := dAt (d := q_Item_sees) cD 18 0,
    d_Item_eq := dAt (d := q_Item_eq) cD 19 0,
    d_Gatherer_members := dAt (d := q_Gatherer_members) cD 20 0,
    d_want_items := dAt (d := q_want_items) cD 21 0,
    d_is_right_member := dAt (d := q_is_right_member) cD 22 0,
    d_want_gathered := dAt (d := q_want_gathered) cD 23 0,
    d_hops_of := dAt (d := q_hops_of) cD 24 0,
    d_want_few := dAt (d := q_want_few) cD 25 0,
    d_Gathered_init := dAt (d := q_Gathered_init) cD 26 0,
    d_Gathered_hops := dAt (d := q_Gathered_hops) cD 27 0,
    d_Gathered_leaves := dAt (d := q_Gathered_leaves) cD 28 0,
    d_Gathered_gatherers := dAt (d := q_Gathered_gatherers) cD 29 0,
    d_Gathered_getitem := dAt (d := q_Gathered_getitem) cD 30 0,
    d_Gathered_contains := dAt (d := q_Gathered_contains) cD 31 0,
    d_Gathered_cells := dAt (d := q_Gathered_cells) cD 32 0,
    d_Gathered_want_gatherer := dAt (d := q_Gathered_want_gatherer) cD 33 0,
    d_Gathered_with_other := dAt (d := q_Gathered_with_other) cD 34 0,
    d_Gathered_with_hole := dAt (d := q_Gathered_with_hole) cD 35 0,
    d_Gathered_without_hole := dAt (d := q_Gathered_without_hole) cD 36 0,
    d_Gathered_eq := dAt (d := q_Gathered_eq) cD 37 0,
    d_Gathered_want_withdrawn := dAt (d := q_Gathered_want_withdrawn) cD 38 0,
    d_Gathered_want_hop := dAt (d := q_Gathered_want_hop) cD 39 0,
    d_Gathered_want_question := dAt (d := q_Gathered_want_question) cD 40 0,
    d_Gathered_sent_by := dAt (d := q_Gathered_sent_by) cD 41 1,
    d_Gathered_way := dAt (d := q_Gathered_way) cD 42 1,
    d_Gathered_end := dAt (d := q_Gathered_end) cD 43 1,
    d_stretch_length := dAt (d := q_stretch_length) cD 44 0,
    d_standing_names := dAt (d := q_standing_names) cD 45 0,
    d_does_lack := dAt (d := q_does_lack) cD 46 0,
    d_item_for := dAt (d := q_item_for) cD 47 0,
    d_step_under := dAt (d := q_step_under) cD 48 0,
    d_way_under := dAt (d := q_way_under) cD 49 0,
    d_all_withdrawn := dAt (d := q_all_withdrawn) cD 50 0,
    d_all_standing := dAt (d := q_all_standing) cD 51 0,
    d_full_cells := dAt (d := q_full_cells) cD 52 0,
    d_ring_from := dAt (d := q_ring_from) cD 53 0,
    d_first_ring := dAt (d := q_first_ring) cD 54 0,
    d_is_safe := dAt (d := q_is_safe) cD 55 0,
    d_round_paper := dAt (d := q_round_paper) cD 56 0,
    d_law_pot := dAt (d := q_law_pot) cD 57 0,
    d_law_draw := dAt (d := q_law_draw) cD 58 0,
    d_law_among := dAt (d := q_law_among) cD 59 0,
    d_law_road := dAt (d := q_law_road) cD 60 0,
    d_law_eyes := dAt (d := q_law_eyes) cD 61 0,
    d_law_thing := dAt (d := q_law_thing) cD 62 0,
    d_law_deal := dAt (d := q_law_deal) cD 63 0,
    d_law_object := dAt (d := q_law_object) cD 64 0,
    d_law_made := dAt (d := q_law_made) cD 65 0,
    d_law_few := dAt (d := q_law_few) cD 66 0,
    d_law_spots := dAt (d := q_law_spots) cD 67 0,
    d_law_asked := dAt (d := q_law_asked) cD 68 0,
    d_law_low := dAt (d := q_law_low) cD 69 0,
    d_law_gones := dAt (d := q_law_gones) cD 70 0,
    d_law_tops := dAt (d := q_law_tops) cD 71 0,
    d_law_way_rises := dAt (d := q_law_way_rises) cD 72 0,
    d_law_all_rise := dAt (d := q_law_all_rise) cD 73 0,
    d_law_told_round := dAt (d := q_law_told_round) cD 74 0,
    d_law_cases := dAt (d := q_law_cases) cD 75 0,
    d_law_right := dAt (d := q_law_right) cD 76 0,
    d_law := dAt (d := q_law) cD 77 0,
    g_is_integer := He.glo_ok X G (allAt k0 0),
    g_is_list := He.glo_ok X G (allAt k0 1),
    g_is_width := He.glo_ok X G (allAt k0 2),
    g_is_bits := He.glo_ok X G (allAt k0 3),
    g_is_name := He.glo_ok X G (allAt k0 4),
    g_is_address := He.glo_ok X G (allAt k0 5),
    g_want_width := He.glo_ok X G (allAt k0 6),
    g_want_address := He.glo_ok X G (allAt k0 7),
    g_size_of := He.glo_ok X G (allAt k0 8),
    g_begin_of := He.glo_ok X G (allAt k0 9),
    g_address_of := He.glo_ok X G (allAt k0 10),
    g_cell_rows := He.glo_ok X G (allAt k0 11),
    g_last_hop := He.glo_ok X G (allAt k0 12),
    g_is_way := He.glo_ok X G (allAt k0 13),
    g_want_head := He.glo_ok X G (allAt k0 14),
    g_want_members := He.glo_ok X G (allAt k0 15),
    g_want_items := He.glo_ok X G (allAt k0 16),
    g_is_right_member := He.glo_ok X G (allAt k0 17),
    g_want_gathered := He.glo_ok X G (allAt k0 18),
    g_hops_of := He.glo_ok X G (allAt k0 19),
    g_want_few := He.glo_ok X G (allAt k0 20),
    g_stretch_length := He.glo_ok X G (allAt k0 21),
    g_standing_names := He.glo_ok X G (allAt k0 22),
    g_does_lack := He.glo_ok X G (allAt k0 23),
    g_item_for := He.glo_ok X G (allAt k0 24),
    g_step_under := He.glo_ok X G (allAt k0 25),
    g_way_under := He.glo_ok X G (allAt k0 26),
    g_all_withdrawn := He.glo_ok X G (allAt k0 27),
    g_all_standing := He.glo_ok X G (allAt k0 28),
    g_full_cells := He.glo_ok X G (allAt k0 29),
    g_ring_from := He.glo_ok X G (allAt k0 30),
    g_first_ring := He.glo_ok X G (allAt k0 31),
    g_is_safe := He.glo_ok X G (allAt k0 32),
    g_round_paper := He.glo_ok X G (allAt k0 33),
    g_law_pot := He.glo_ok X G (allAt k0 34),
    g_law_draw := He.glo_ok X G (allAt k0 35),
    g_law_among := He.glo_ok X G (allAt k0 36),
    g_law_road := He.glo_ok X G (allAt k0 37),
    g_law_eyes := He.glo_ok X G (allAt k0 38),
    g_law_thing := He.glo_ok X G (allAt k0 39),
    g_law_deal := He.glo_ok X G (allAt k0 40),
    g_law_object := He.glo_ok X G (allAt k0 41),
    g_law_made := He.glo_ok X G (allAt k0 42),
    g_law_few := He.glo_ok X G (allAt k0 43),
    g_law_spots := He.glo_ok X G (allAt k0 44),
    g_law_asked := He.glo_ok X G (allAt k0 45),
    g_law_low := He.glo_ok X G (allAt k0 46),
    g_law_gones := He.glo_ok X G (allAt k0 47),
    g_law_tops := He.glo_ok X G (allAt k0 48),
    g_law_way_rises := He.glo_ok X G (allAt k0 49),
    g_law_all_rise := He.glo_ok X G (allAt k0 50),
    g_law_told_round := He.glo_ok X G (allAt k0 51),
    g_law_cases := He.glo_ok X G (allAt k0 52),
    g_law_right := He.glo_ok X G (allAt k0 53),
    g_law := He.glo_ok X G (allAt k0 54),
    g_Item := He.glo_ok X G (allAt k0 55),
    g_Leaf := He.glo_ok X G (allAt k0 56),
    g_Gatherer := He.glo_ok X G (allAt k0 57),
    g_Closed := He.glo_ok X G (allAt k0 58),
    g_Gathered := He.glo_ok X G (allAt k0 59),
    b_len := He.free_ok X G (allAt k1f 0),
    b_isinstance := He.free_ok X G (allAt k1f 1),
    b_int := He.free_ok X G (allAt k1f 2),
    b_bool := He.free_ok X G (allAt k1f 3),
    b_str := He.free_ok X G (allAt k1f 4),
    b_list := He.free_ok X G (allAt k1f 5),
    b_tuple := He.free_ok X G (allAt k1f 6),
    b_dict := He.free_ok X G (allAt k1f 7),
    b_sorted := He.free_ok X G (allAt k1f 8),
    b_all := He.free_ok X G (allAt k1f 9),
    b_any := He.free_ok X G (allAt k1f 10),
    b_range := He.free_ok X G (allAt k1f 11),
    b_enumerate := He.free_ok X G (allAt k1f 12),
    b_abs := He.free_ok X G (allAt k1f 13),
    b_max := He.free_ok X G (allAt k1f 14),
    b_min := He.free_ok X G (allAt k1f 15),
    b_divmod := He.free_ok X G (allAt k1f 16),
    b_set := He.free_ok X G (allAt k1f 17),
    b_super := He.free_ok X G (allAt k1f 18),
    i_MOST_WIDTH := He.int_ok X G (allAt k1i 0),
    i_LONGEST_NAME := He.int_ok X G (allAt k1i 1),
    i_LONGEST := He.int_ok X G (allAt k1i 2),
    i_MOST_HOPS := He.int_ok X G (allAt k1i 3),
    i_MOST_LEAVES := He.int_ok X G (allAt k1i 4),
    i_MOST_GATHERERS := He.int_ok X G (allAt k1i 5),
    i_MOST_NESTED := He.int_ok X G (allAt k1i 6),
    s_LETTERS := He.str_ok X G k1s,
    g_KEPT_WORDS := He.glo_ok X G (allAt k0 61),
    t_KEPT_WORDS := fun H => He.tupB_ok k1k H,
    g_ENDS := He.glo_ok X G (allAt k0 62),
    t_ENDS := fun H => He.tupB_ok k1e H,
    c_Leaf := kItem_ok k2a,
    c_Gatherer := kItem_ok k2b,
    c_Closed := kItem_ok k2c,
    k_Leaf_Leaf := kKit_ok (allAt k3k 0),
    k_Leaf_Gatherer := kKit_ok (allAt k3k 1),
    k_Leaf_Closed := kKit_ok (allAt k3k 2),
    k_Gatherer_Leaf := kKit_ok (allAt k3k 3),
    k_Gatherer_Gatherer := kKit_ok (allAt k3k 4),
    k_Gatherer_Closed := kKit_ok (allAt k3k 5),
    k_Closed_Leaf := kKit_ok (allAt k3k 6),
    k_Closed_Gatherer := kKit_ok (allAt k3k 7),
    k_Closed_Closed := kKit_ok (allAt k3k 8),
    k_Gathered_Gathered := kKit_ok (allAt k3k 9),
    mk_Leaf := kMk_ok k3a,
    mk_Gatherer := kMk_ok k3b,
    mk_Closed := kMk_ok k3c,
    m_Gatherer_members := kMeth_ok k3d,
    m_Closed_members := kMeth_ok k3e,
    c_Gathered := kIns_ok k4a,
    n_own_width := He.noat_ok (allAt k4b 0),
    n_told_items := He.noat_ok (allAt k4b 1),
    n_own_items := He.noat_ok (allAt k4b 2),
    mk_Gathered := kMk_ok k4c,
    m_Gathered_hops := kMeth_ok (allAt k4d 0),
    m_Gathered_leaves := kMeth_ok (allAt k4d 1),
    m_Gathered_gatherers := kMeth_ok (allAt k4d 2),
    m_Gathered_getitem := kMeth_ok (allAt k4d 3),
    m_Gathered_contains := kMeth_ok (allAt k4d 4),
    m_Gathered_cells := kMeth_ok (allAt k4d 5),
    m_Gathered_want_gatherer := kMeth_ok (allAt k4d 6),
    m_Gathered_with_other := kMeth_ok (allAt k4d 7),
    m_Gathered_with_hole := kMeth_ok (allAt k4d 8),
    m_Gathered_without_hole := kMeth_ok (allAt k4d 9),
    m_Gathered_eq := kMeth_ok (allAt k4d 10),
    m_Gathered_want_withdrawn := kMeth_ok (allAt k4d 11),
    m_Gathered_want_hop := kMeth_ok (allAt k4d 12),
    m_Gathered_want_question := kMeth_ok (allAt k4d 13),
    m_Gathered_sent_by := kMeth_ok (allAt k4d 14),
    m_Gathered_way := kMeth_ok (allAt k4d 15),
    m_Gathered_end := kMeth_ok (allAt k4d 16) }
theorem gini (c : obsC K = valC) : GiniAt theP K := by
  have cA : ckA K = true := congrArg (fun z : AlC => z.1) c
  have cG : fnG K = valG := congrArg (fun z : AlC => z.2.1) c
  obtain ⟨_, cA⟩ := He.ba cA
  obtain ⟨_, cA⟩ := He.ba cA
  obtain ⟨_, cA⟩ := He.ba cA
  obtain ⟨_, cA⟩ := He.ba cA
  obtain ⟨_, cA⟩ := He.ba cA
  obtain ⟨g0, cA⟩ := He.ba cA
  obtain ⟨g1, cA⟩ := He.ba cA
  obtain ⟨g2, cA⟩ := He.ba cA
  obtain ⟨g3, cA⟩ := He.ba cA
  obtain ⟨g4, cA⟩ := He.ba cA
  obtain ⟨g5, cA⟩ := He.ba cA
  obtain ⟨g6, cA⟩ := He.ba cA
  obtain ⟨g7, g8⟩ := He.ba cA
  have two : ∀ {k : Nat}, k ≠ 0 → clsOf K k = He.ga K "Gatherer" ∨ clsOf K k = He.ga K "Closed" := fun {k} hk => by
    unfold clsOf
    rw [if_neg hk]
    split
    · exact .inl rfl
    · exact .inr rfl
  refine ⟨?_, g1, by decide +kernel, ?_, fun k hk => ?_, fun k hk => ?_, of_decide_eq_true g7, He.eqO_ok g8⟩
  · unfold kGini at g0
    unfold fnG at cG
    cases q : K.lookup (gIn K) with
    | none => rw [q] at g0; cases g0
    | some ob =>
      obtain ⟨oc, od, dt, osl⟩ := ob
      rw [q] at g0 cG
      cases dt with
      | func fd =>
        obtain ⟨n1, n2, n3, n4, n5, n6, n7, n8, n9, n10, n11, n12, n13, n14, n15⟩ := fd
        have e2 : (some (n1, n2, n3, n4, n5, n6, n7.map (·.1), n15) : FnG) = (some (("__init__" : Str), ("Gatherer.__init__" : Str), defArgs s_Gatherer_init, FuncBody.stmts (defBody s_Gatherer_init), defScope s_Gatherer_init, mainGlobals, [("__class__" : Str)], builtinsNs) : FnG) := cG
        simp only [Option.some.injEq, Prod.mk.injEq] at e2
        obtain ⟨h1, h2, h3, h4, h5, h6, h7, h8⟩ := e2
        subst h1 h2 h3 h4 h5 h6 h8
        obtain ⟨a1, g0⟩ := He.ba g0
        obtain ⟨a2, g0⟩ := He.ba g0
        obtain ⟨a3, a4⟩ := He.ba g0
        dsimp only at a1 a2 a3 a4
        cases n13 with
        | ref cda =>
          dsimp only at a3
          split at a3
          · rename_i ccl cdd vs ccs q2
            split at a3
            · rename_i file tf q3
              cases n7 with
              | nil => cases a4
              | cons p r =>
                cases r with
                | cons _ _ => cases a4
                | nil =>
                  obtain ⟨x, cc⟩ := p
                  have ex : x = "__class__" := (List.cons.inj h7).1
                  subst ex
                  dsimp only at a4
                  split at a4
                  · rename_i cl cld dd csl q4
                    have ed := of_decide_eq_true a4
                    subst ed
                    exact ⟨oc, od, n8, n9, n10, n11, n12, cda, n14, osl, cc, ccl, cdd, vs, ccs, file, tf, cl, cld, csl, rfl, a1, He.dflB_ok (dvs := [.non]) a2, q2, q3, a3, q4⟩
                  · cases a4
            · cases a3
          · cases a3
        | _ => cases a3
      | _ => cases g0
  · cases e : PySem.W.clsIn K (He.ga K "Gatherer") with
    | none => rw [e] at g2; cases g2
    | some cd => exact ⟨cd, rfl⟩
  · rcases two hk with z | z
    · rw [z]; exact of_decide_eq_true g3
    · rw [z]; exact of_decide_eq_true g4
  · rcases two hk with z | z
    · rw [z]; exact He.eqO_ok g5
    · rw [z]; exact He.eqO_ok g6
end
end Cw
open PySem PySem.W PySem.Calls PyProof.Rows
theorem PySem.Challenge.cw_coverways_k65_whole_lengths_never_fall_holds : PySem.Challenge.rw_coverways_k65_whole_lengths_never_fall.Holds := by
  w_on; o_law
  refine HandSHeadRun.head_any (r := OpenLaw.row PySem.Challenge.rw_coverways_k65_whole_lengths_never_fall) (q := Cw.qv) (H := Cw.hookC) (ob := Cw.obC) (M := 9000) (loose := Cw.loose) (d := HandSHeadRun.topDef (OpenLaw.row PySem.Challenge.rw_coverways_k65_whole_lengths_never_fall).prog 96) (kwd := []) Cw.obC_eq
    (by kernel_rfl) (fun s => by kernel_rfl) Cw.runAll (by kernel_rfl) (by kernel_rfl) (by kernel_rfl) (by rfl) (by first | assumption | decide +kernel) (by decide +kernel) ⟨rfl, rfl, rfl, rfl, rfl, by decide +kernel⟩ ?hw ?hc
  case hw => w_witness2
  case hc =>
    refine L2.walk_ofE (l := PySem.Challenge.rw_coverways_k65_whole_lengths_never_fall) (n := 63) (k := 19) (x := "_law_script") (CX := L2.CX0) rfl (by decide) (by kernel_rfl) ⟨rfl, by decide, by decide⟩ ?F (fun _ _ _ _ z => z)
    intro w mg fa h Y G hmg0
    obtain ⟨K, KX, c⟩ := Y
    have hmg : mg ("law" : PySem.Str) = some (.ref fa) := by
      have e : (HandSHeadRun.topDef (OpenLaw.row PySem.Challenge.rw_coverways_k65_whole_lengths_never_fall).prog 96).name = ("law" : PySem.Str) := by kernel_rfl
      rw [← e]
      exact hmg0
    have T := Cw.txt KX G c
    obtain ⟨fd, hF, hb⟩ := Cw.c_law (P := (PySem.Challenge.rw_coverways_k65_whole_lengths_never_fall).prog) (w := w) T (Cw.gini c)
    have e := hmg.symm.trans T.g_law
    cases e
    exact ⟨K, fd, Cw.sp_law K, KX, fun s v => hb s [v] rfl, fun H a ns hl _ hS => ⟨a, ns, rfl, hS, fun _ => rfl⟩, fun base _ _ => hF base⟩
