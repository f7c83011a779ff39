import PyProof.Rows.All
import Wide.All
import OpenK.AllK
import Wide.FinOn
import KE.KStateDown
import HandS.ForMost
import HandS.Sort
import HandS.Conv
import HandS.Defaults
import HandS.Star
import HandS.DictComp
import HandS.Deep
import HandS.TupAny
import HandS.IsInst
import HandS.Wide
import HandS.Flow
import HandS.Head0
import HandS.Head1
import HandS.Head2
import HandS.HeadEnd
import HandS.HeadHook1
import HandS.HeadHook2
import KE.DatumOrd
import PyProof.Claim2Refuses
import HandS.Rev
import HandS.OwnEq
import HandS.Codes
import PySem.Challenge.RW_bothfree_k83_whole_trees_of_one_root
set_option Elab.async false
set_option linter.all false
set_option maxRecDepth 100000
set_option maxHeartbeats 4000000
/-! the text by places; what the walk asks of it -/
namespace Bt
open PySem PySem.Spec PyProof.Rows L2
def top (i : Nat) : Stmt := PySem.Challenge.pw_bothfree_k83_whole_trees_of_one_root.main.body.getD i (.Pass ⟨0, 0, 0, 0⟩)
abbrev s_is_integer : Stmt := top 18
abbrev s_is_name : Stmt := top 19
abbrev s_first_wrong : Stmt := top 20
abbrev s_need_things : Stmt := top 21
abbrev s_need_lot : Stmt := top 22
abbrev s_is_lot : Stmt := top 23
abbrev s_need_weights : Stmt := top 24
abbrev s_need_number : Stmt := top 25
abbrev s_need_alike : Stmt := top 26
abbrev s_less : Stmt := top 27
abbrev s_with_thing : Stmt := top 28
abbrev s_changes : Stmt := top 32
abbrev s_need_places : Stmt := top 35
abbrev s_is_pair : Stmt := top 36
abbrev s_ties_family : Stmt := top 38
abbrev s_without : Stmt := top 41
abbrev s_drawn_in : Stmt := top 42
abbrev s_is_free_tuple : Stmt := top 44
abbrev s_outer_of : Stmt := top 45
abbrev s_after : Stmt := top 46
abbrev s_came_from : Stmt := top 47
abbrev s_way_back : Stmt := top 48
abbrev s_chain_of : Stmt := top 49
abbrev s_sides_changed : Stmt := top 50
abbrev s_greatest_lot : Stmt := top 51
abbrev s_reaching : Stmt := top 52
abbrev s_both : Stmt := top 53
abbrev s_both_fault : Stmt := top 54
abbrev s_needed : Stmt := top 55
abbrev s_possible : Stmt := top 56
abbrev s_is_room : Stmt := top 59
abbrev s_shared : Stmt := top 60
abbrev s_are_crossed : Stmt := top 61
abbrev s_first_over : Stmt := top 64
abbrev s_counts_family : Stmt := top 65
abbrev s_total_weight : Stmt := top 67
abbrev s_outer : Stmt := top 68
abbrev s_entries : Stmt := top 69
abbrev s_trades : Stmt := top 70
abbrev s_steps_between : Stmt := top 71
abbrev s_best_way : Stmt := top 72
abbrev s_heaviest_lots : Stmt := top 73
abbrev s_lot_of : Stmt := top 74
abbrev s_need_both : Stmt := top 75
abbrev s_heaviest_both : Stmt := top 76
abbrev s_split : Stmt := top 77
abbrev s_is_free_in : Stmt := top 78
abbrev s_parts_fault : Stmt := top 79
abbrev s_trade_fault : Stmt := top 80
abbrev s_split_fault : Stmt := top 81
abbrev s_curve : Stmt := top 82
abbrev s_law_state : Stmt := top 84
abbrev s_law_draw : Stmt := top 85
abbrev s_law_names : Stmt := top 86
abbrev s_law_weights : Stmt := top 91
abbrev s_law_sum : Stmt := top 92
abbrev s_law_arcs : Stmt := top 93
abbrev s_law_reached : Stmt := top 94
abbrev s_law_heads : Stmt := top 95
abbrev s_law_trees : Stmt := top 96
abbrev s_law : Stmt := top 97
abbrev s_Family_init : Stmt := inClass (top 30) 0
abbrev s_Family_rank_of : Stmt := inClass (top 30) 1
abbrev s_Family_things : Stmt := inClass (top 30) 2
abbrev s_Family_len : Stmt := inClass (top 30) 3
abbrev s_Web_init : Stmt := inClass (top 37) 0
abbrev s_Web_marks : Stmt := inClass (top 37) 5
abbrev s_Web_count_free : Stmt := inClass (top 37) 6
abbrev s_Drawn_init : Stmt := inClass (top 40) 0
abbrev s_Drawn_count_free : Stmt := inClass (top 40) 1
abbrev s_Counts_init : Stmt := inClass (top 62) 0
abbrev s_Counts_things : Stmt := inClass (top 62) 1
abbrev s_CountsWorld_init : Stmt := inClass (top 63) 0
abbrev s_CountsWorld_count_free : Stmt := inClass (top 63) 1
abbrev FnQ (K : PySem.W.Frag) (x qual : Str) (st : Stmt) (f : Addr) (fd : FuncData) : Prop := FunD K x qual (defArgs st) (defBody st) (defScope st) [] [] f fd
/-- a global def as the top has left it -/
def GDef (K : PySem.W.Frag) (mg : Str → Option Value) (x : Str) (st : Stmt) : Prop := (∃ fd, FnQ K x x st (He.ga K x) fd) ∧ mg x = some (.ref (He.ga K x))
/-- a method as the top has left it -/
def MDef (K : PySem.W.Frag) (c m : Str) (qual : Str) (st : Stmt) : Prop := ∃ fd, FnQ K m qual st (He.ma K (He.ga K c) m) fd
structure Txt (K : PySem.W.Frag) (mg : Str → Option Value) : Prop where
  d_is_integer : GDef K mg "is_integer" s_is_integer
  d_is_name : GDef K mg "is_name" s_is_name
  d_first_wrong : GDef K mg "first_wrong" s_first_wrong
  d_need_things : GDef K mg "need_things" s_need_things
  d_need_lot : GDef K mg "need_lot" s_need_lot
  d_is_lot : GDef K mg "is_lot" s_is_lot
  d_need_weights : GDef K mg "need_weights" s_need_weights
  d_need_number : GDef K mg "need_number" s_need_number
  d_need_alike : GDef K mg "need_alike" s_need_alike
  d_less : GDef K mg "less" s_less
  d_with_thing : GDef K mg "with_thing" s_with_thing
  d_changes : GDef K mg "changes" s_changes
  d_need_places : GDef K mg "need_places" s_need_places
  d_is_pair : GDef K mg "is_pair" s_is_pair
  d_ties_family : GDef K mg "ties_family" s_ties_family
  d_without : GDef K mg "without" s_without
  d_drawn_in : GDef K mg "drawn_in" s_drawn_in
  d_is_free_tuple : GDef K mg "is_free_tuple" s_is_free_tuple
  d_outer_of : GDef K mg "outer_of" s_outer_of
  d_after : GDef K mg "after" s_after
  d_came_from : GDef K mg "came_from" s_came_from
  d_way_back : GDef K mg "way_back" s_way_back
  d_chain_of : GDef K mg "chain_of" s_chain_of
  d_sides_changed : GDef K mg "sides_changed" s_sides_changed
  d_greatest_lot : GDef K mg "greatest_lot" s_greatest_lot
  d_reaching : GDef K mg "reaching" s_reaching
  d_both : GDef K mg "both" s_both
  d_both_fault : GDef K mg "both_fault" s_both_fault
  d_needed : GDef K mg "needed" s_needed
  d_possible : GDef K mg "possible" s_possible
  d_is_room : GDef K mg "is_room" s_is_room
  d_shared : GDef K mg "shared" s_shared
  d_are_crossed : GDef K mg "are_crossed" s_are_crossed
  d_first_over : GDef K mg "first_over" s_first_over
  d_counts_family : GDef K mg "counts_family" s_counts_family
  d_total_weight : GDef K mg "total_weight" s_total_weight
  d_outer : GDef K mg "outer" s_outer
  d_entries : GDef K mg "entries" s_entries
  d_trades : GDef K mg "trades" s_trades
  d_steps_between : GDef K mg "steps_between" s_steps_between
  d_best_way : GDef K mg "best_way" s_best_way
  d_heaviest_lots : GDef K mg "heaviest_lots" s_heaviest_lots
  d_lot_of : GDef K mg "lot_of" s_lot_of
  d_need_both : GDef K mg "need_both" s_need_both
  d_heaviest_both : GDef K mg "heaviest_both" s_heaviest_both
  d_split : GDef K mg "split" s_split
  d_is_free_in : GDef K mg "is_free_in" s_is_free_in
  d_parts_fault : GDef K mg "parts_fault" s_parts_fault
  d_trade_fault : GDef K mg "trade_fault" s_trade_fault
  d_split_fault : GDef K mg "split_fault" s_split_fault
  d_curve : GDef K mg "curve" s_curve
  d_law_state : GDef K mg "_law_state" s_law_state
  d_law_draw : GDef K mg "_law_draw" s_law_draw
  d_law_names : GDef K mg "_law_names" s_law_names
  d_law_weights : GDef K mg "_law_weights" s_law_weights
  d_law_sum : GDef K mg "_law_sum" s_law_sum
  d_law_arcs : GDef K mg "_law_arcs" s_law_arcs
  d_law_reached : GDef K mg "_law_reached" s_law_reached
  d_law_heads : GDef K mg "_law_heads" s_law_heads
  d_law_trees : GDef K mg "_law_trees" s_law_trees
  d_law : GDef K mg "law" s_law
  m_Family_init : MDef K "Family" "__init__" "Family.__init__" s_Family_init
  m_Family_rank_of : MDef K "Family" "rank_of" "Family.rank_of" s_Family_rank_of
  m_Family_things : MDef K "Family" "things" "Family.things" s_Family_things
  m_Family_len : MDef K "Family" "__len__" "Family.__len__" s_Family_len
  m_Web_init : MDef K "Web" "__init__" "Web.__init__" s_Web_init
  m_Web_marks : MDef K "Web" "marks" "Web.marks" s_Web_marks
  m_Web_count_free : MDef K "Web" "count_free" "Web.count_free" s_Web_count_free
  m_Drawn_init : MDef K "Drawn" "__init__" "Drawn.__init__" s_Drawn_init
  m_Drawn_count_free : MDef K "Drawn" "count_free" "Drawn.count_free" s_Drawn_count_free
  m_Counts_init : MDef K "Counts" "__init__" "Counts.__init__" s_Counts_init
  m_Counts_things : MDef K "Counts" "things" "Counts.things" s_Counts_things
  m_CountsWorld_init : MDef K "CountsWorld" "__init__" "CountsWorld.__init__" s_CountsWorld_init
  m_CountsWorld_count_free : MDef K "CountsWorld" "count_free" "CountsWorld.count_free" s_CountsWorld_count_free
  c_Family : Cls K (He.ga K "Family")
  g_Family : mg "Family" = some (.ref (He.ga K "Family"))
  k_Family : Mk K (He.ga K "Family") (He.ma K (He.ga K "Family") "__init__")
  n_Family_names : NoAttr K (He.ga K "Family") "names"
  n_Family_source : NoAttr K (He.ga K "Family") "source"
  n_Family_counted : NoAttr K (He.ga K "Family") "counted"
  h_Family_rank_of : Meth K (He.ga K "Family") "rank_of" (He.ma K (He.ga K "Family") "rank_of")
  h_Family_things : Meth K (He.ga K "Family") "things" (He.ma K (He.ga K "Family") "things")
  h_Family_len : Meth K (He.ga K "Family") "__len__" (He.ma K (He.ga K "Family") "__len__")
  c_Web : Cls K (He.ga K "Web")
  g_Web : mg "Web" = some (.ref (He.ga K "Web"))
  k_Web : Mk K (He.ga K "Web") (He.ma K (He.ga K "Web") "__init__")
  n_Web_known : NoAttr K (He.ga K "Web") "known"
  n_Web_ending : NoAttr K (He.ga K "Web") "ending"
  h_Web_marks : Meth K (He.ga K "Web") "marks" (He.ma K (He.ga K "Web") "marks")
  h_Web_count_free : Meth K (He.ga K "Web") "count_free" (He.ma K (He.ga K "Web") "count_free")
  c_Drawn : Cls K (He.ga K "Drawn")
  g_Drawn : mg "Drawn" = some (.ref (He.ga K "Drawn"))
  k_Drawn : Mk K (He.ga K "Drawn") (He.ma K (He.ga K "Drawn") "__init__")
  n_Drawn_inner : NoAttr K (He.ga K "Drawn") "inner"
  n_Drawn_lot : NoAttr K (He.ga K "Drawn") "lot"
  h_Drawn_count_free : Meth K (He.ga K "Drawn") "count_free" (He.ma K (He.ga K "Drawn") "count_free")
  c_Counts : Cls K (He.ga K "Counts")
  g_Counts : mg "Counts" = some (.ref (He.ga K "Counts"))
  k_Counts : Mk K (He.ga K "Counts") (He.ma K (He.ga K "Counts") "__init__")
  n_Counts_known : NoAttr K (He.ga K "Counts") "known"
  n_Counts_held : NoAttr K (He.ga K "Counts") "held"
  h_Counts_things : Meth K (He.ga K "Counts") "things" (He.ma K (He.ga K "Counts") "things")
  c_CountsWorld : Cls K (He.ga K "CountsWorld")
  g_CountsWorld : mg "CountsWorld" = some (.ref (He.ga K "CountsWorld"))
  k_CountsWorld : Mk K (He.ga K "CountsWorld") (He.ma K (He.ga K "CountsWorld") "__init__")
  n_CountsWorld_table : NoAttr K (He.ga K "CountsWorld") "table"
  h_CountsWorld_count_free : Meth K (He.ga K "CountsWorld") "count_free" (He.ma K (He.ga K "CountsWorld") "count_free")
  f_isinstance : mg "isinstance" = none
  f_int : mg "int" = none
  f_bool : mg "bool" = none
  f_str : mg "str" = none
  f_list : mg "list" = none
  f_tuple : mg "tuple" = none
  f_dict : mg "dict" = none
  f_len : mg "len" = none
  f_all : mg "all" = none
  f_any : mg "any" = none
  f_sorted : mg "sorted" = none
  f_enumerate : mg "enumerate" = none
  f_min : mg "min" = none
  f_max : mg "max" = none
  f_sum : mg "sum" = none
  f_range : mg "range" = none
  f_reversed : mg "reversed" = none
  i_MOST_LETTERS : ∃ t, mg "MOST_LETTERS" = some (.int 8 t)
  i_MOST_THINGS : ∃ t, mg "MOST_THINGS" = some (.int 24 t)
  i_MOST_PLACES : ∃ t, mg "MOST_PLACES" = some (.int 16 t)
  i_MOST_ROOMS : ∃ t, mg "MOST_ROOMS" = some (.int 60 t)
  s_LETTERS : ∃ t, mg "LETTERS" = some (.str "abcdefghijklmnopqrstuvwxyz" t)
/-! ### the scopes -/
end Bt
set_option Elab.async false
set_option linter.all false
set_option maxRecDepth 100000
set_option maxHeartbeats 0
/-! the head: facts by names, the run -/
namespace Bt
open PySem PySem.Spec PyProof.Rows L2
def dd_is_integer : He.DefD := ⟨("is_integer", none), "is_integer", "is_integer", defArgs s_is_integer, defBody s_is_integer, defScope s_is_integer, [], []⟩
def dd_is_name : He.DefD := ⟨("is_name", none), "is_name", "is_name", defArgs s_is_name, defBody s_is_name, defScope s_is_name, [], []⟩
def dd_first_wrong : He.DefD := ⟨("first_wrong", none), "first_wrong", "first_wrong", defArgs s_first_wrong, defBody s_first_wrong, defScope s_first_wrong, [], []⟩
def dd_need_things : He.DefD := ⟨("need_things", none), "need_things", "need_things", defArgs s_need_things, defBody s_need_things, defScope s_need_things, [], []⟩
def dd_need_lot : He.DefD := ⟨("need_lot", none), "need_lot", "need_lot", defArgs s_need_lot, defBody s_need_lot, defScope s_need_lot, [], []⟩
def dd_is_lot : He.DefD := ⟨("is_lot", none), "is_lot", "is_lot", defArgs s_is_lot, defBody s_is_lot, defScope s_is_lot, [], []⟩
def dd_need_weights : He.DefD := ⟨("need_weights", none), "need_weights", "need_weights", defArgs s_need_weights, defBody s_need_weights, defScope s_need_weights, [], []⟩
def dd_need_number : He.DefD := ⟨("need_number", none), "need_number", "need_number", defArgs s_need_number, defBody s_need_number, defScope s_need_number, [], []⟩
def dd_need_alike : He.DefD := ⟨("need_alike", none), "need_alike", "need_alike", defArgs s_need_alike, defBody s_need_alike, defScope s_need_alike, [], []⟩
def dd_less : He.DefD := ⟨("less", none), "less", "less", defArgs s_less, defBody s_less, defScope s_less, [], []⟩
def dd_with_thing : He.DefD := ⟨("with_thing", none), "with_thing", "with_thing", defArgs s_with_thing, defBody s_with_thing, defScope s_with_thing, [], []⟩
def dd_changes : He.DefD := ⟨("changes", none), "changes", "changes", defArgs s_changes, defBody s_changes, defScope s_changes, [], []⟩
def dd_need_places : He.DefD := ⟨("need_places", none), "need_places", "need_places", defArgs s_need_places, defBody s_need_places, defScope s_need_places, [], []⟩
def dd_is_pair : He.DefD := ⟨("is_pair", none), "is_pair", "is_pair", defArgs s_is_pair, defBody s_is_pair, defScope s_is_pair, [], []⟩
def dd_ties_family : He.DefD := ⟨("ties_family", none), "ties_family", "ties_family", defArgs s_ties_family, defBody s_ties_family, defScope s_ties_family, [], []⟩
def dd_without : He.DefD := ⟨("without", none), "without", "without", defArgs s_without, defBody s_without, defScope s_without, [], []⟩
def dd_drawn_in : He.DefD := ⟨("drawn_in", none), "drawn_in", "drawn_in", defArgs s_drawn_in, defBody s_drawn_in, defScope s_drawn_in, [], []⟩
def dd_is_free_tuple : He.DefD := ⟨("is_free_tuple", none), "is_free_tuple", "is_free_tuple", defArgs s_is_free_tuple, defBody s_is_free_tuple, defScope s_is_free_tuple, [], []⟩
def dd_outer_of : He.DefD := ⟨("outer_of", none), "outer_of", "outer_of", defArgs s_outer_of, defBody s_outer_of, defScope s_outer_of, [], []⟩
def dd_after : He.DefD := ⟨("after", none), "after", "after", defArgs s_after, defBody s_after, defScope s_after, [], []⟩
def dd_came_from : He.DefD := ⟨("came_from", none), "came_from", "came_from", defArgs s_came_from, defBody s_came_from, defScope s_came_from, [], []⟩
def dd_way_back : He.DefD := ⟨("way_back", none), "way_back", "way_back", defArgs s_way_back, defBody s_way_back, defScope s_way_back, [], []⟩
def dd_chain_of : He.DefD := ⟨("chain_of", none), "chain_of", "chain_of", defArgs s_chain_of, defBody s_chain_of, defScope s_chain_of, [], []⟩
def dd_sides_changed : He.DefD := ⟨("sides_changed", none), "sides_changed", "sides_changed", defArgs s_sides_changed, defBody s_sides_changed, defScope s_sides_changed, [], []⟩
def dd_greatest_lot : He.DefD := ⟨("greatest_lot", none), "greatest_lot", "greatest_lot", defArgs s_greatest_lot, defBody s_greatest_lot, defScope s_greatest_lot, [], []⟩
def dd_reaching : He.DefD := ⟨("reaching", none), "reaching", "reaching", defArgs s_reaching, defBody s_reaching, defScope s_reaching, [], []⟩
def dd_both : He.DefD := ⟨("both", none), "both", "both", defArgs s_both, defBody s_both, defScope s_both, [], []⟩
def dd_both_fault : He.DefD := ⟨("both_fault", none), "both_fault", "both_fault", defArgs s_both_fault, defBody s_both_fault, defScope s_both_fault, [], []⟩
def dd_needed : He.DefD := ⟨("needed", none), "needed", "needed", defArgs s_needed, defBody s_needed, defScope s_needed, [], []⟩
def dd_possible : He.DefD := ⟨("possible", none), "possible", "possible", defArgs s_possible, defBody s_possible, defScope s_possible, [], []⟩
def dd_is_room : He.DefD := ⟨("is_room", none), "is_room", "is_room", defArgs s_is_room, defBody s_is_room, defScope s_is_room, [], []⟩
def dd_shared : He.DefD := ⟨("shared", none), "shared", "shared", defArgs s_shared, defBody s_shared, defScope s_shared, [], []⟩
def dd_are_crossed : He.DefD := ⟨("are_crossed", none), "are_crossed", "are_crossed", defArgs s_are_crossed, defBody s_are_crossed, defScope s_are_crossed, [], []⟩
def dd_first_over : He.DefD := ⟨("first_over", none), "first_over", "first_over", defArgs s_first_over, defBody s_first_over, defScope s_first_over, [], []⟩
def dd_counts_family : He.DefD := ⟨("counts_family", none), "counts_family", "counts_family", defArgs s_counts_family, defBody s_counts_family, defScope s_counts_family, [], []⟩
def dd_total_weight : He.DefD := ⟨("total_weight", none), "total_weight", "total_weight", defArgs s_total_weight, defBody s_total_weight, defScope s_total_weight, [], []⟩
def dd_outer : He.DefD := ⟨("outer", none), "outer", "outer", defArgs s_outer, defBody s_outer, defScope s_outer, [], []⟩
def dd_entries : He.DefD := ⟨("entries", none), "entries", "entries", defArgs s_entries, defBody s_entries, defScope s_entries, [], []⟩
def dd_trades : He.DefD := ⟨("trades", none), "trades", "trades", defArgs s_trades, defBody s_trades, defScope s_trades, [], []⟩
def dd_steps_between : He.DefD := ⟨("steps_between", none), "steps_between", "steps_between", defArgs s_steps_between, defBody s_steps_between, defScope s_steps_between, [], []⟩
def dd_best_way : He.DefD := ⟨("best_way", none), "best_way", "best_way", defArgs s_best_way, defBody s_best_way, defScope s_best_way, [], []⟩
def dd_heaviest_lots : He.DefD := ⟨("heaviest_lots", none), "heaviest_lots", "heaviest_lots", defArgs s_heaviest_lots, defBody s_heaviest_lots, defScope s_heaviest_lots, [], []⟩
def dd_lot_of : He.DefD := ⟨("lot_of", none), "lot_of", "lot_of", defArgs s_lot_of, defBody s_lot_of, defScope s_lot_of, [], []⟩
def dd_need_both : He.DefD := ⟨("need_both", none), "need_both", "need_both", defArgs s_need_both, defBody s_need_both, defScope s_need_both, [], []⟩
def dd_heaviest_both : He.DefD := ⟨("heaviest_both", none), "heaviest_both", "heaviest_both", defArgs s_heaviest_both, defBody s_heaviest_both, defScope s_heaviest_both, [], []⟩
def dd_split : He.DefD := ⟨("split", none), "split", "split", defArgs s_split, defBody s_split, defScope s_split, [], []⟩
def dd_is_free_in : He.DefD := ⟨("is_free_in", none), "is_free_in", "is_free_in", defArgs s_is_free_in, defBody s_is_free_in, defScope s_is_free_in, [], []⟩
def dd_parts_fault : He.DefD := ⟨("parts_fault", none), "parts_fault", "parts_fault", defArgs s_parts_fault, defBody s_parts_fault, defScope s_parts_fault, [], []⟩
def dd_trade_fault : He.DefD := ⟨("trade_fault", none), "trade_fault", "trade_fault", defArgs s_trade_fault, defBody s_trade_fault, defScope s_trade_fault, [], []⟩
def dd_split_fault : He.DefD := ⟨("split_fault", none), "split_fault", "split_fault", defArgs s_split_fault, defBody s_split_fault, defScope s_split_fault, [], []⟩
def dd_curve : He.DefD := ⟨("curve", none), "curve", "curve", defArgs s_curve, defBody s_curve, defScope s_curve, [], []⟩
def dd_law_state : He.DefD := ⟨("_law_state", none), "_law_state", "_law_state", defArgs s_law_state, defBody s_law_state, defScope s_law_state, [], []⟩
def dd_law_draw : He.DefD := ⟨("_law_draw", none), "_law_draw", "_law_draw", defArgs s_law_draw, defBody s_law_draw, defScope s_law_draw, [], []⟩
def dd_law_names : He.DefD := ⟨("_law_names", none), "_law_names", "_law_names", defArgs s_law_names, defBody s_law_names, defScope s_law_names, [], []⟩
def dd_law_weights : He.DefD := ⟨("_law_weights", none), "_law_weights", "_law_weights", defArgs s_law_weights, defBody s_law_weights, defScope s_law_weights, [], []⟩
def dd_law_sum : He.DefD := ⟨("_law_sum", none), "_law_sum", "_law_sum", defArgs s_law_sum, defBody s_law_sum, defScope s_law_sum, [], []⟩
def dd_law_arcs : He.DefD := ⟨("_law_arcs", none), "_law_arcs", "_law_arcs", defArgs s_law_arcs, defBody s_law_arcs, defScope s_law_arcs, [], []⟩
def dd_law_reached : He.DefD := ⟨("_law_reached", none), "_law_reached", "_law_reached", defArgs s_law_reached, defBody s_law_reached, defScope s_law_reached, [], []⟩
def dd_law_heads : He.DefD := ⟨("_law_heads", none), "_law_heads", "_law_heads", defArgs s_law_heads, defBody s_law_heads, defScope s_law_heads, [], []⟩
def dd_law_trees : He.DefD := ⟨("_law_trees", none), "_law_trees", "_law_trees", defArgs s_law_trees, defBody s_law_trees, defScope s_law_trees, [], []⟩
def dd_law : He.DefD := ⟨("law", none), "law", "law", defArgs s_law, defBody s_law, defScope s_law, [], []⟩
def dd_Family_init : He.DefD := ⟨("Family", some "__init__"), "__init__", "Family.__init__", defArgs s_Family_init, defBody s_Family_init, defScope s_Family_init, [], []⟩
def dd_Family_rank_of : He.DefD := ⟨("Family", some "rank_of"), "rank_of", "Family.rank_of", defArgs s_Family_rank_of, defBody s_Family_rank_of, defScope s_Family_rank_of, [], []⟩
def dd_Family_things : He.DefD := ⟨("Family", some "things"), "things", "Family.things", defArgs s_Family_things, defBody s_Family_things, defScope s_Family_things, [], []⟩
def dd_Family_len : He.DefD := ⟨("Family", some "__len__"), "__len__", "Family.__len__", defArgs s_Family_len, defBody s_Family_len, defScope s_Family_len, [], []⟩
def dd_Web_init : He.DefD := ⟨("Web", some "__init__"), "__init__", "Web.__init__", defArgs s_Web_init, defBody s_Web_init, defScope s_Web_init, [], []⟩
def dd_Web_marks : He.DefD := ⟨("Web", some "marks"), "marks", "Web.marks", defArgs s_Web_marks, defBody s_Web_marks, defScope s_Web_marks, [], []⟩
def dd_Web_count_free : He.DefD := ⟨("Web", some "count_free"), "count_free", "Web.count_free", defArgs s_Web_count_free, defBody s_Web_count_free, defScope s_Web_count_free, [], []⟩
def dd_Drawn_init : He.DefD := ⟨("Drawn", some "__init__"), "__init__", "Drawn.__init__", defArgs s_Drawn_init, defBody s_Drawn_init, defScope s_Drawn_init, [], []⟩
def dd_Drawn_count_free : He.DefD := ⟨("Drawn", some "count_free"), "count_free", "Drawn.count_free", defArgs s_Drawn_count_free, defBody s_Drawn_count_free, defScope s_Drawn_count_free, [], []⟩
def dd_Counts_init : He.DefD := ⟨("Counts", some "__init__"), "__init__", "Counts.__init__", defArgs s_Counts_init, defBody s_Counts_init, defScope s_Counts_init, [], []⟩
def dd_Counts_things : He.DefD := ⟨("Counts", some "things"), "things", "Counts.things", defArgs s_Counts_things, defBody s_Counts_things, defScope s_Counts_things, [], []⟩
def dd_CountsWorld_init : He.DefD := ⟨("CountsWorld", some "__init__"), "__init__", "CountsWorld.__init__", defArgs s_CountsWorld_init, defBody s_CountsWorld_init, defScope s_CountsWorld_init, [], []⟩
def dd_CountsWorld_count_free : He.DefD := ⟨("CountsWorld", some "count_free"), "count_free", "CountsWorld.count_free", defArgs s_CountsWorld_count_free, defBody s_CountsWorld_count_free, defScope s_CountsWorld_count_free, [], []⟩
def fn0 : List He.DefD := [dd_is_integer,
  dd_is_name,
  dd_first_wrong,
  dd_need_things,
  dd_need_lot,
  dd_is_lot,
  dd_need_weights,
  dd_need_number,
  dd_need_alike,
  dd_less,
  dd_with_thing,
  dd_changes,
  dd_need_places,
  dd_is_pair,
  dd_ties_family,
  dd_without,
  dd_drawn_in,
  dd_is_free_tuple,
  dd_outer_of,
  dd_after,
  dd_came_from,
  dd_way_back,
  dd_chain_of,
  dd_sides_changed,
  dd_greatest_lot,
  dd_reaching,
  dd_both,
  dd_both_fault,
  dd_needed,
  dd_possible]
def fn1 : List He.DefD := [dd_is_room,
  dd_shared,
  dd_are_crossed,
  dd_first_over,
  dd_counts_family,
  dd_total_weight,
  dd_outer,
  dd_entries,
  dd_trades,
  dd_steps_between,
  dd_best_way,
  dd_heaviest_lots,
  dd_lot_of,
  dd_need_both,
  dd_heaviest_both,
  dd_split,
  dd_is_free_in,
  dd_parts_fault,
  dd_trade_fault,
  dd_split_fault,
  dd_curve,
  dd_law_state,
  dd_law_draw,
  dd_law_names,
  dd_law_weights,
  dd_law_sum,
  dd_law_arcs,
  dd_law_reached,
  dd_law_heads,
  dd_law_trees]
def fn2 : List He.DefD := [dd_law,
  dd_Family_init,
  dd_Family_rank_of,
  dd_Family_things,
  dd_Family_len,
  dd_Web_init,
  dd_Web_marks,
  dd_Web_count_free,
  dd_Drawn_init,
  dd_Drawn_count_free,
  dd_Counts_init,
  dd_Counts_things,
  dd_CountsWorld_init,
  dd_CountsWorld_count_free]
def fn : List He.DefD := fn0 ++ fn1 ++ fn2
def fa0 : List He.Fa := [.glo "is_integer",
  .glo "is_name",
  .glo "first_wrong",
  .glo "need_things",
  .glo "need_lot",
  .glo "is_lot",
  .glo "need_weights",
  .glo "need_number",
  .glo "need_alike",
  .glo "less",
  .glo "with_thing",
  .glo "changes",
  .glo "need_places",
  .glo "is_pair",
  .glo "ties_family",
  .glo "without",
  .glo "drawn_in",
  .glo "is_free_tuple",
  .glo "outer_of",
  .glo "after",
  .glo "came_from",
  .glo "way_back",
  .glo "chain_of",
  .glo "sides_changed",
  .glo "greatest_lot",
  .glo "reaching",
  .glo "both",
  .glo "both_fault",
  .glo "needed",
  .glo "possible"]
def fa1 : List He.Fa := [.glo "is_room",
  .glo "shared",
  .glo "are_crossed",
  .glo "first_over",
  .glo "counts_family",
  .glo "total_weight",
  .glo "outer",
  .glo "entries",
  .glo "trades",
  .glo "steps_between",
  .glo "best_way",
  .glo "heaviest_lots",
  .glo "lot_of",
  .glo "need_both",
  .glo "heaviest_both",
  .glo "split",
  .glo "is_free_in",
  .glo "parts_fault",
  .glo "trade_fault",
  .glo "split_fault",
  .glo "curve",
  .glo "_law_state",
  .glo "_law_draw",
  .glo "_law_names",
  .glo "_law_weights",
  .glo "_law_sum",
  .glo "_law_arcs",
  .glo "_law_reached",
  .glo "_law_heads",
  .glo "_law_trees"]
def fa2 : List He.Fa := [.glo "law",
  .glo "Family",
  .cls "Family",
  .mkr "Family",
  .noat "Family" "names",
  .noat "Family" "source",
  .noat "Family" "counted",
  .meth "Family" "rank_of",
  .meth "Family" "things",
  .meth "Family" "__len__",
  .glo "Web",
  .cls "Web",
  .mkr "Web",
  .noat "Web" "known",
  .noat "Web" "ending",
  .meth "Web" "marks",
  .meth "Web" "count_free",
  .glo "Drawn",
  .cls "Drawn",
  .mkr "Drawn",
  .noat "Drawn" "inner",
  .noat "Drawn" "lot",
  .meth "Drawn" "count_free",
  .glo "Counts",
  .cls "Counts",
  .mkr "Counts",
  .noat "Counts" "known",
  .noat "Counts" "held",
  .meth "Counts" "things",
  .glo "CountsWorld"]
def fa3 : List He.Fa := [.cls "CountsWorld",
  .mkr "CountsWorld",
  .noat "CountsWorld" "table",
  .meth "CountsWorld" "count_free",
  .free "isinstance",
  .free "int",
  .free "bool",
  .free "str",
  .free "list",
  .free "tuple",
  .free "dict",
  .free "len",
  .free "all",
  .free "any",
  .free "sorted",
  .free "enumerate",
  .free "min",
  .free "max",
  .free "sum",
  .free "range",
  .free "reversed",
  .int "MOST_LETTERS" 8,
  .int "MOST_THINGS" 24,
  .int "MOST_PLACES" 16,
  .int "MOST_ROOMS" 60,
  .str "LETTERS" "abcdefghijklmnopqrstuvwxyz"]
def fa : List He.Fa := fa0 ++ fa1 ++ fa2 ++ fa3
def loose0 : List Str := ["_wall", "__name__", "LotError", "BadThings", "BadLot", "NoThing", "UnlikeThings", "TooMany", "BadWeights", "BadNumber", "BadPlaces", "BadTies", "BadRooms", "CrossedRooms", "LETTERS", "MOST_LETTERS", "MOST_THINGS", "is_integer", "is_name", "first_wrong", "need_things", "need_lot", "is_lot", "need_weights", "need_number", "need_alike", "less", "with_thing", "Family", "greedy"]
def loose1 : List Str := ["changes", "MOST_PLACES", "need_places", "is_pair", "Web", "ties_family", "Drawn", "without", "drawn_in", "is_free_tuple", "outer_of", "after", "came_from", "way_back", "chain_of", "sides_changed", "greatest_lot", "reaching", "both", "both_fault", "needed", "possible", "MOST_ROOMS", "is_room", "shared", "are_crossed", "Counts", "CountsWorld", "first_over", "counts_family"]
def loose2 : List Str := ["total_weight", "outer", "entries", "trades", "steps_between", "best_way", "heaviest_lots", "lot_of", "need_both", "heaviest_both", "split", "is_free_in", "parts_fault", "trade_fault", "split_fault", "curve", "_law_state", "_law_draw", "_law_names", "_law_forest", "_law_two_free", "_law_free", "_law_rank", "_law_weights", "_law_sum", "_law_arcs", "_law_reached", "_law_heads", "_law_trees"]
def loose : List Str := loose0 ++ loose1 ++ loose2
def al0 : List Addr := [2, 3, 15, 17, 18, 20, 21, 22, 29, 30, 31, 32, 35, 42, 44, 45, 47, 48, 49, 50, 51, 54, 61, 63, 64, 66, 67, 68, 69, 70, 73, 80, 82, 83, 85]
def al1 : List Addr := [86, 87, 88, 89, 92, 99, 100, 101, 104, 111, 113, 114, 116, 117, 118, 119, 120, 123, 130, 132, 133, 135, 136, 137, 138, 139, 142, 149, 151, 152, 154, 155, 156, 157, 158]
def al2 : List Addr := [161, 168, 170, 171, 173, 174, 175, 176, 177, 180, 187, 189, 190, 192, 193, 194, 195, 196, 199, 206, 208, 209, 211, 212, 213, 214, 215, 218, 225, 227, 228, 230, 231, 232, 233]
def al3 : List Addr := [234, 237, 239, 240, 242, 243, 244, 247, 248, 249, 251, 252, 254, 255, 256, 258, 259, 261, 262, 263, 265, 266, 268, 269, 270, 273, 274, 275, 277, 278, 280, 281, 282, 284, 285]
def al4 : List Addr := [287, 288, 289, 291, 292, 294, 295, 296, 299, 300, 301, 303, 304, 306, 307, 315, 317, 318, 320, 321, 322, 324, 325, 327, 328, 329, 331, 332, 334, 335, 336, 338, 339, 341, 342]
def al5 : List Addr := [343, 345, 346, 348, 349, 350, 352, 353, 355, 356, 357, 359, 360, 362, 363, 364, 366, 367, 369, 370, 371, 373, 374, 376, 377, 378, 380, 381, 383, 384, 385, 387, 388, 390, 391]
def al6 : List Addr := [392, 394, 395, 397, 398, 399, 400, 401, 402, 403, 406, 408, 409, 411, 412, 413, 415, 416, 418, 419, 420, 422, 423, 425, 426, 427, 430, 431, 439, 442, 443, 444, 446, 447, 449]
def al7 : List Addr := [450, 451, 453, 454, 456, 457, 458, 460, 461, 463, 464, 465, 467, 468, 470, 471, 472, 475, 476, 477, 480, 481, 482, 483, 484, 485, 486, 489, 491, 492, 494, 495, 503, 505, 506]
def al8 : List Addr := [508, 509, 510, 512, 513, 515, 516, 517, 518, 519, 520, 521, 524, 526, 527, 529, 530, 531, 533, 534, 536, 537, 538, 540, 541, 543, 544, 545, 548, 549, 550, 553, 554, 555, 558]
def al9 : List Addr := [559, 560, 562, 563, 565, 566, 567, 570, 571, 572, 574, 575, 577, 578, 579, 581, 582, 584, 585, 586, 588, 589, 591, 592, 593, 595, 596, 598, 599, 600, 602, 603, 605, 606, 607]
def al10 : List Addr := [609, 610, 612, 613, 614, 616, 617, 619, 620, 621, 623, 624, 626, 627, 628, 631, 632, 633, 635, 636, 638, 639, 647, 649, 650, 652, 653, 654, 656, 657, 659, 660, 661, 664, 665]
def al11 : List Addr := [666, 668, 669, 671, 672, 673, 674, 675, 676, 677, 687, 689, 690, 692, 693, 694, 696, 697, 699, 700, 701, 702, 703, 704, 705, 708, 710, 711, 713, 714, 715, 717, 718, 720, 721]
def al12 : List Addr := [722, 725, 726, 727, 729, 730, 732, 733, 734, 737, 738, 739, 742, 743, 744, 747, 748, 749, 752, 753, 754, 757, 758, 759, 761, 762, 764, 765, 766, 768, 769, 771, 772, 773, 775]
def al13 : List Addr := [776, 778, 779, 780, 783, 784, 785, 787, 788, 790, 791, 792, 795, 796, 797, 799, 800, 802, 803, 804, 806, 807, 809, 810, 811, 814, 815, 816, 818, 819, 821, 822, 823, 825, 826]
def al14 : List Addr := [828, 829, 830, 832, 833, 835, 836, 863, 866, 867, 868, 871, 872, 873, 875, 876, 878, 879, 880, 882, 883, 885, 886, 887, 890, 891, 892, 895, 896, 897, 900, 901]
def al : List Addr := al0 ++ al1 ++ al2 ++ al3 ++ al4 ++ al5 ++ al6 ++ al7 ++ al8 ++ al9 ++ al10 ++ al11 ++ al12 ++ al13 ++ al14
end Bt
namespace Bt
open PySem PySem.Spec PySem.W PySem.Calls PyProof.Rows L2
abbrev RR : PySem.W.OpenRow := PySem.W.OpenLaw.row PySem.Challenge.rw_bothfree_k83_whole_trees_of_one_root
def hk : PySem.W.Hook where
  α := He.AlD
  obs := fun s => He.obsD fa fn (He.frG s.heap.get? al)
  val := fun _ => He.valD fn
  says := fun _ h => ∃ K : PySem.W.Frag, K.In h ∧ He.SaysD fa fn K
  of := fun _ _ e => ⟨_, He.frG_in, e⟩
  keeps := fun _ _ _ ⟨K, hK, c⟩ k => ⟨K, PySem.W.Frag.In.keeps hK k, c⟩
def ob (s : PySem.W.SharedT) : He.AlD := He.obsD fa fn (He.frG (HandSHeadRun.getT s) al)
theorem ob_eq (s : PySem.W.SharedT) : ob s = hk.obs s.abs := by
  show He.obsD fa fn (He.frG (HandSHeadRun.getT s) al) = He.obsD fa fn (He.frG s.abs.heap.get? al)
  rw [show HandSHeadRun.getT s = s.abs.heap.get? from funext (HandSHeadRun.getT_eq s)]
theorem run_a (w : World) (os : OsState) : (HandSHeadRun.endF (HandSHeadRun.stepQ (HandSHeadRun.denQ HandSHeadRun.tabQ) RR.prog w) 9000 RR.prog w os).map (fun s => HandSHeadRun.looksF RR.prog (boot_heap w.params) s.abs) = some true := by
  kernel_rfl
theorem run_b (w : World) (os : OsState) : (HandSHeadRun.endF (HandSHeadRun.stepQ (HandSHeadRun.denQ HandSHeadRun.tabQ) RR.prog w) 9000 RR.prog w os).map (fun s => HandSHeadRun.seenQ (PySem.W.view RR.prog [97]) loose (importedModules RR.prog.main.body) (fun s => PySem.W.xlAt (PySem.W.view RR.prog [97]) [] s && PySem.W.recOk RR.toRowW.records s) s.abs) = some (PySem.W.openGood (PySem.W.view RR.prog [97]) loose) := by
  kernel_rfl
theorem run_c (w : World) (os : OsState) : (HandSHeadRun.endF (HandSHeadRun.stepQ (HandSHeadRun.denQ HandSHeadRun.tabQ) RR.prog w) 9000 RR.prog w os).map ob = some (hk.val w) := by
  kernel_rfl
theorem join3 {σ β γ δ : Type} {o : Option σ} {f : σ → β} {g : σ → γ} {h : σ → δ} {b : β} {c : γ} {d : δ} (e1 : o.map f = some b) (e2 : o.map g = some c) (e3 : o.map h = some d) : o.map (fun s => (f s, g s, h s)) = some (b, c, d) := by
  cases o with
  | none => cases e1
  | some s =>
    have h1 : f s = b := Option.some.inj e1
    have h2 : g s = c := Option.some.inj e2
    have h3 : h s = d := Option.some.inj e3
    show some (f s, g s, h s) = some (b, c, d)
    rw [h1, h2, h3]
theorem run (w : World) : HandSHeadRun.RunEq RR (PySem.W.view RR.prog [97]) hk ob 9000 loose w := fun os => join3 (run_a w os) (run_b w os) (run_c w os)
theorem txt_of {K : PySem.W.Frag} {h : Heap} {mg : Str → Option Value} (X : K.In h) (G : h.Ns mainGlobals mg) (c : He.SaysD fa fn K) : Txt K mg where
  d_is_integer := ⟨c.def_ 0 (d := dd_is_integer) (by rfl), He.glo_ok X G (c.fact 0 (f := .glo "is_integer") (by rfl))⟩
  d_is_name := ⟨c.def_ 1 (d := dd_is_name) (by rfl), He.glo_ok X G (c.fact 1 (f := .glo "is_name") (by rfl))⟩
  d_first_wrong := ⟨c.def_ 2 (d := dd_first_wrong) (by rfl), He.glo_ok X G (c.fact 2 (f := .glo "first_wrong") (by rfl))⟩
  d_need_things := ⟨c.def_ 3 (d := dd_need_things) (by rfl), He.glo_ok X G (c.fact 3 (f := .glo "need_things") (by rfl))⟩
  d_need_lot := ⟨c.def_ 4 (d := dd_need_lot) (by rfl), He.glo_ok X G (c.fact 4 (f := .glo "need_lot") (by rfl))⟩
  d_is_lot := ⟨c.def_ 5 (d := dd_is_lot) (by rfl), He.glo_ok X G (c.fact 5 (f := .glo "is_lot") (by rfl))⟩
  d_need_weights := ⟨c.def_ 6 (d := dd_need_weights) (by rfl), He.glo_ok X G (c.fact 6 (f := .glo "need_weights") (by rfl))⟩
  d_need_number := ⟨c.def_ 7 (d := dd_need_number) (by rfl), He.glo_ok X G (c.fact 7 (f := .glo "need_number") (by rfl))⟩
  d_need_alike := ⟨c.def_ 8 (d := dd_need_alike) (by rfl), He.glo_ok X G (c.fact 8 (f := .glo "need_alike") (by rfl))⟩
  d_less := ⟨c.def_ 9 (d := dd_less) (by rfl), He.glo_ok X G (c.fact 9 (f := .glo "less") (by rfl))⟩
  d_with_thing := ⟨c.def_ 10 (d := dd_with_thing) (by rfl), He.glo_ok X G (c.fact 10 (f := .glo "with_thing") (by rfl))⟩
  d_changes := ⟨c.def_ 11 (d := dd_changes) (by rfl), He.glo_ok X G (c.fact 11 (f := .glo "changes") (by rfl))⟩
  d_need_places := ⟨c.def_ 12 (d := dd_need_places) (by rfl), He.glo_ok X G (c.fact 12 (f := .glo "need_places") (by rfl))⟩
  d_is_pair := ⟨c.def_ 13 (d := dd_is_pair) (by rfl), He.glo_ok X G (c.fact 13 (f := .glo "is_pair") (by rfl))⟩
  d_ties_family := ⟨c.def_ 14 (d := dd_ties_family) (by rfl), He.glo_ok X G (c.fact 14 (f := .glo "ties_family") (by rfl))⟩
  d_without := ⟨c.def_ 15 (d := dd_without) (by rfl), He.glo_ok X G (c.fact 15 (f := .glo "without") (by rfl))⟩
  d_drawn_in := ⟨c.def_ 16 (d := dd_drawn_in) (by rfl), He.glo_ok X G (c.fact 16 (f := .glo "drawn_in") (by rfl))⟩
  d_is_free_tuple := ⟨c.def_ 17 (d := dd_is_free_tuple) (by rfl), He.glo_ok X G (c.fact 17 (f := .glo "is_free_tuple") (by rfl))⟩
  d_outer_of := ⟨c.def_ 18 (d := dd_outer_of) (by rfl), He.glo_ok X G (c.fact 18 (f := .glo "outer_of") (by rfl))⟩
  d_after := ⟨c.def_ 19 (d := dd_after) (by rfl), He.glo_ok X G (c.fact 19 (f := .glo "after") (by rfl))⟩
  d_came_from := ⟨c.def_ 20 (d := dd_came_from) (by rfl), He.glo_ok X G (c.fact 20 (f := .glo "came_from") (by rfl))⟩
  d_way_back := ⟨c.def_ 21 (d := dd_way_back) (by rfl), He.glo_ok X G (c.fact 21 (f := .glo "way_back") (by rfl))⟩
  d_chain_of := ⟨c.def_ 22 (d := dd_chain_of) (by rfl), He.glo_ok X G (c.fact 22 (f := .glo "chain_of") (by rfl))⟩
  d_sides_changed := ⟨c.def_ 23 (d := dd_sides_changed) (by rfl), He.glo_ok X G (c.fact 23 (f := .glo "sides_changed") (by rfl))⟩
  d_greatest_lot := ⟨c.def_ 24 (d := dd_greatest_lot) (by rfl), He.glo_ok X G (c.fact 24 (f := .glo "greatest_lot") (by rfl))⟩
  d_reaching := ⟨c.def_ 25 (d := dd_reaching) (by rfl), He.glo_ok X G (c.fact 25 (f := .glo "reaching") (by rfl))⟩
  d_both := ⟨c.def_ 26 (d := dd_both) (by rfl), He.glo_ok X G (c.fact 26 (f := .glo "both") (by rfl))⟩
  d_both_fault := ⟨c.def_ 27 (d := dd_both_fault) (by rfl), He.glo_ok X G (c.fact 27 (f := .glo "both_fault") (by rfl))⟩
  d_needed := ⟨c.def_ 28 (d := dd_needed) (by rfl), He.glo_ok X G (c.fact 28 (f := .glo "needed") (by rfl))⟩
  d_possible := ⟨c.def_ 29 (d := dd_possible) (by rfl), He.glo_ok X G (c.fact 29 (f := .glo "possible") (by rfl))⟩
  d_is_room := ⟨c.def_ 30 (d := dd_is_room) (by rfl), He.glo_ok X G (c.fact 30 (f := .glo "is_room") (by rfl))⟩
  d_shared := ⟨c.def_ 31 (d := dd_shared) (by rfl), He.glo_ok X G (c.fact 31 (f := .glo "shared") (by rfl))⟩
  d_are_crossed := ⟨c.def_ 32 (d := dd_are_crossed) (by rfl), He.glo_ok X G (c.fact 32 (f := .glo "are_crossed") (by rfl))⟩
  d_first_over := ⟨c.def_ 33 (d := dd_first_over) (by rfl), He.glo_ok X G (c.fact 33 (f := .glo "first_over") (by rfl))⟩
  d_counts_family := ⟨c.def_ 34 (d := dd_counts_family) (by rfl), He.glo_ok X G (c.fact 34 (f := .glo "counts_family") (by rfl))⟩
  d_total_weight := ⟨c.def_ 35 (d := dd_total_weight) (by rfl), He.glo_ok X G (c.fact 35 (f := .glo "total_weight") (by rfl))⟩
  d_outer := ⟨c.def_ 36 (d := dd_outer) (by rfl), He.glo_ok X G (c.fact 36 (f := .glo "outer") (by rfl))⟩
  d_entries := ⟨c.def_ 37 (d := dd_entries) (by rfl), He.glo_ok X G (c.fact 37 (f := .glo "entries") (by rfl))⟩
  d_trades := ⟨c.def_ 38 (d := dd_trades) (by rfl), He.glo_ok X G (c.fact 38 (f := .glo "trades") (by rfl))⟩
  d_steps_between := ⟨c.def_ 39 (d := dd_steps_between) (by rfl), He.glo_ok X G (c.fact 39 (f := .glo "steps_between") (by rfl))⟩
  d_best_way := ⟨c.def_ 40 (d := dd_best_way) (by rfl), He.glo_ok X G (c.fact 40 (f := .glo "best_way") (by rfl))⟩
  d_heaviest_lots := ⟨c.def_ 41 (d := dd_heaviest_lots) (by rfl), He.glo_ok X G (c.fact 41 (f := .glo "heaviest_lots") (by rfl))⟩
  d_lot_of := ⟨c.def_ 42 (d := dd_lot_of) (by rfl), He.glo_ok X G (c.fact 42 (f := .glo "lot_of") (by rfl))⟩
  d_need_both := ⟨c.def_ 43 (d := dd_need_both) (by rfl), He.glo_ok X G (c.fact 43 (f := .glo "need_both") (by rfl))⟩
  d_heaviest_both := ⟨c.def_ 44 (d := dd_heaviest_both) (by rfl), He.glo_ok X G (c.fact 44 (f := .glo "heaviest_both") (by rfl))⟩
  d_split := ⟨c.def_ 45 (d := dd_split) (by rfl), He.glo_ok X G (c.fact 45 (f := .glo "split") (by rfl))⟩
  d_is_free_in := ⟨c.def_ 46 (d := dd_is_free_in) (by rfl), He.glo_ok X G (c.fact 46 (f := .glo "is_free_in") (by rfl))⟩
  d_parts_fault := ⟨c.def_ 47 (d := dd_parts_fault) (by rfl), He.glo_ok X G (c.fact 47 (f := .glo "parts_fault") (by rfl))⟩
  d_trade_fault := ⟨c.def_ 48 (d := dd_trade_fault) (by rfl), He.glo_ok X G (c.fact 48 (f := .glo "trade_fault") (by rfl))⟩
  d_split_fault := ⟨c.def_ 49 (d := dd_split_fault) (by rfl), He.glo_ok X G (c.fact 49 (f := .glo "split_fault") (by rfl))⟩
  d_curve := ⟨c.def_ 50 (d := dd_curve) (by rfl), He.glo_ok X G (c.fact 50 (f := .glo "curve") (by rfl))⟩
  d_law_state := ⟨c.def_ 51 (d := dd_law_state) (by rfl), He.glo_ok X G (c.fact 51 (f := .glo "_law_state") (by rfl))⟩
  d_law_draw := ⟨c.def_ 52 (d := dd_law_draw) (by rfl), He.glo_ok X G (c.fact 52 (f := .glo "_law_draw") (by rfl))⟩
  d_law_names := ⟨c.def_ 53 (d := dd_law_names) (by rfl), He.glo_ok X G (c.fact 53 (f := .glo "_law_names") (by rfl))⟩
  d_law_weights := ⟨c.def_ 54 (d := dd_law_weights) (by rfl), He.glo_ok X G (c.fact 54 (f := .glo "_law_weights") (by rfl))⟩
  d_law_sum := ⟨c.def_ 55 (d := dd_law_sum) (by rfl), He.glo_ok X G (c.fact 55 (f := .glo "_law_sum") (by rfl))⟩
  d_law_arcs := ⟨c.def_ 56 (d := dd_law_arcs) (by rfl), He.glo_ok X G (c.fact 56 (f := .glo "_law_arcs") (by rfl))⟩
  d_law_reached := ⟨c.def_ 57 (d := dd_law_reached) (by rfl), He.glo_ok X G (c.fact 57 (f := .glo "_law_reached") (by rfl))⟩
  d_law_heads := ⟨c.def_ 58 (d := dd_law_heads) (by rfl), He.glo_ok X G (c.fact 58 (f := .glo "_law_heads") (by rfl))⟩
  d_law_trees := ⟨c.def_ 59 (d := dd_law_trees) (by rfl), He.glo_ok X G (c.fact 59 (f := .glo "_law_trees") (by rfl))⟩
  d_law := ⟨c.def_ 60 (d := dd_law) (by rfl), He.glo_ok X G (c.fact 60 (f := .glo "law") (by rfl))⟩
  m_Family_init := c.def_ 61 (d := dd_Family_init) (by rfl)
  m_Family_rank_of := c.def_ 62 (d := dd_Family_rank_of) (by rfl)
  m_Family_things := c.def_ 63 (d := dd_Family_things) (by rfl)
  m_Family_len := c.def_ 64 (d := dd_Family_len) (by rfl)
  m_Web_init := c.def_ 65 (d := dd_Web_init) (by rfl)
  m_Web_marks := c.def_ 66 (d := dd_Web_marks) (by rfl)
  m_Web_count_free := c.def_ 67 (d := dd_Web_count_free) (by rfl)
  m_Drawn_init := c.def_ 68 (d := dd_Drawn_init) (by rfl)
  m_Drawn_count_free := c.def_ 69 (d := dd_Drawn_count_free) (by rfl)
  m_Counts_init := c.def_ 70 (d := dd_Counts_init) (by rfl)
  m_Counts_things := c.def_ 71 (d := dd_Counts_things) (by rfl)
  m_CountsWorld_init := c.def_ 72 (d := dd_CountsWorld_init) (by rfl)
  m_CountsWorld_count_free := c.def_ 73 (d := dd_CountsWorld_count_free) (by rfl)
  c_Family := He.cls_ok (c.fact 62 (f := .cls "Family") (by rfl))
  g_Family := He.glo_ok X G (c.fact 61 (f := .glo "Family") (by rfl))
  k_Family := He.mkr_ok (c.fact 63 (f := .mkr "Family") (by rfl))
  n_Family_names := He.noat_ok (c.fact 64 (f := .noat "Family" "names") (by rfl))
  n_Family_source := He.noat_ok (c.fact 65 (f := .noat "Family" "source") (by rfl))
  n_Family_counted := He.noat_ok (c.fact 66 (f := .noat "Family" "counted") (by rfl))
  h_Family_rank_of := He.meth_ok (c.fact 67 (f := .meth "Family" "rank_of") (by rfl))
  h_Family_things := He.meth_ok (c.fact 68 (f := .meth "Family" "things") (by rfl))
  h_Family_len := He.meth_ok (c.fact 69 (f := .meth "Family" "__len__") (by rfl))
  c_Web := He.cls_ok (c.fact 71 (f := .cls "Web") (by rfl))
  g_Web := He.glo_ok X G (c.fact 70 (f := .glo "Web") (by rfl))
  k_Web := He.mkr_ok (c.fact 72 (f := .mkr "Web") (by rfl))
  n_Web_known := He.noat_ok (c.fact 73 (f := .noat "Web" "known") (by rfl))
  n_Web_ending := He.noat_ok (c.fact 74 (f := .noat "Web" "ending") (by rfl))
  h_Web_marks := He.meth_ok (c.fact 75 (f := .meth "Web" "marks") (by rfl))
  h_Web_count_free := He.meth_ok (c.fact 76 (f := .meth "Web" "count_free") (by rfl))
  c_Drawn := He.cls_ok (c.fact 78 (f := .cls "Drawn") (by rfl))
  g_Drawn := He.glo_ok X G (c.fact 77 (f := .glo "Drawn") (by rfl))
  k_Drawn := He.mkr_ok (c.fact 79 (f := .mkr "Drawn") (by rfl))
  n_Drawn_inner := He.noat_ok (c.fact 80 (f := .noat "Drawn" "inner") (by rfl))
  n_Drawn_lot := He.noat_ok (c.fact 81 (f := .noat "Drawn" "lot") (by rfl))
  h_Drawn_count_free := He.meth_ok (c.fact 82 (f := .meth "Drawn" "count_free") (by rfl))
  c_Counts := He.cls_ok (c.fact 84 (f := .cls "Counts") (by rfl))
  g_Counts := He.glo_ok X G (c.fact 83 (f := .glo "Counts") (by rfl))
  k_Counts := He.mkr_ok (c.fact 85 (f := .mkr "Counts") (by rfl))
  n_Counts_known := He.noat_ok (c.fact 86 (f := .noat "Counts" "known") (by rfl))
  n_Counts_held := He.noat_ok (c.fact 87 (f := .noat "Counts" "held") (by rfl))
  h_Counts_things := He.meth_ok (c.fact 88 (f := .meth "Counts" "things") (by rfl))
  c_CountsWorld := He.cls_ok (c.fact 90 (f := .cls "CountsWorld") (by rfl))
  g_CountsWorld := He.glo_ok X G (c.fact 89 (f := .glo "CountsWorld") (by rfl))
  k_CountsWorld := He.mkr_ok (c.fact 91 (f := .mkr "CountsWorld") (by rfl))
  n_CountsWorld_table := He.noat_ok (c.fact 92 (f := .noat "CountsWorld" "table") (by rfl))
  h_CountsWorld_count_free := He.meth_ok (c.fact 93 (f := .meth "CountsWorld" "count_free") (by rfl))
  f_isinstance := He.free_ok X G (c.fact 94 (f := .free "isinstance") (by rfl))
  f_int := He.free_ok X G (c.fact 95 (f := .free "int") (by rfl))
  f_bool := He.free_ok X G (c.fact 96 (f := .free "bool") (by rfl))
  f_str := He.free_ok X G (c.fact 97 (f := .free "str") (by rfl))
  f_list := He.free_ok X G (c.fact 98 (f := .free "list") (by rfl))
  f_tuple := He.free_ok X G (c.fact 99 (f := .free "tuple") (by rfl))
  f_dict := He.free_ok X G (c.fact 100 (f := .free "dict") (by rfl))
  f_len := He.free_ok X G (c.fact 101 (f := .free "len") (by rfl))
  f_all := He.free_ok X G (c.fact 102 (f := .free "all") (by rfl))
  f_any := He.free_ok X G (c.fact 103 (f := .free "any") (by rfl))
  f_sorted := He.free_ok X G (c.fact 104 (f := .free "sorted") (by rfl))
  f_enumerate := He.free_ok X G (c.fact 105 (f := .free "enumerate") (by rfl))
  f_min := He.free_ok X G (c.fact 106 (f := .free "min") (by rfl))
  f_max := He.free_ok X G (c.fact 107 (f := .free "max") (by rfl))
  f_sum := He.free_ok X G (c.fact 108 (f := .free "sum") (by rfl))
  f_range := He.free_ok X G (c.fact 109 (f := .free "range") (by rfl))
  f_reversed := He.free_ok X G (c.fact 110 (f := .free "reversed") (by rfl))
  i_MOST_LETTERS := He.int_ok X G (c.fact 111 (f := .int "MOST_LETTERS" 8) (by rfl))
  i_MOST_THINGS := He.int_ok X G (c.fact 112 (f := .int "MOST_THINGS" 24) (by rfl))
  i_MOST_PLACES := He.int_ok X G (c.fact 113 (f := .int "MOST_PLACES" 16) (by rfl))
  i_MOST_ROOMS := He.int_ok X G (c.fact 114 (f := .int "MOST_ROOMS" 60) (by rfl))
  s_LETTERS := He.str_ok X G (c.fact 115 (f := .str "LETTERS" "abcdefghijklmnopqrstuvwxyz") (by rfl))
end Bt
set_option Elab.async false
set_option linter.all false
set_option maxRecDepth 100000
set_option maxHeartbeats 4000000
/-! the walk's own layer: what a call keeps, calls by name, comprehensions and loops over what stands -/
namespace Bw
open PySem PySem.Spec PyProof.Rows L2 Bt

/-! ### what stands, what may grow: the families' memos are the only dicts of tuple keys -/
abbrev Reg := Addr → Option (List Str × (List Str → Nat))
def isT : HO → Bool
  | .dT _ => true
  | _ => false
structure Ex0 (H H' : Hp) : Prop where
  old : ∀ a o, H a = some o → isT o = false → H' a = some o
  dom : ∀ a, H' a = none → H a = none
/-- a memo: its keys are lots of the things, told sorted; its values their ranks -/
structure Memo (nm : List Str) (r : List Str → Nat) (kvs : List (List Key × V)) : Prop where
  nd : (kvs.map (·.1)).Nodup
  ok : ∀ k v, valV kvs k = some v → ∃ A, k = A.map Sum.inr ∧ A = nm.filter (fun x => decide (x ∈ A)) ∧ v = .int (r A)
def WInv (R : Reg) (H : Hp) : Prop := ∀ d nm r, R d = some (nm, r) → ∃ kvs, H d = some (.dT kvs) ∧ Memo nm r kvs
structure Kp (R : Reg) (H H' : Hp) : Prop where
  w0 : WInv R H
  w : WInv R H'
  ex : Ex0 H H'
theorem Ex0.refl (H : Hp) : Ex0 H H := ⟨fun _ _ h _ => h, fun _ h => h⟩
theorem Ex0.trans {H H1 H2 : Hp} (a : Ex0 H H1) (b : Ex0 H1 H2) : Ex0 H H2 := ⟨fun c o h n => b.old c o (a.old c o h n) n, fun c h => a.dom c (b.dom c h)⟩
section
variable {R : Reg} {H H0 H1 H2 H' : Hp} {p d a : Addr} {o u : HO}
theorem Kp.refl (h : WInv R H) : Kp R H H := ⟨h, h, Ex0.refl H⟩
theorem Kp.trans (x : Kp R H H1) (y : Kp R H1 H2) : Kp R H H2 := ⟨x.w0, y.w, x.ex.trans y.ex⟩
theorem Kp.at (k : Kp R H H') (h : H a = some o) (hn : isT o = false := by rfl) : H' a = some o := k.ex.old a o h hn
theorem Kp.fr (k : Kp R H H') (h : H' a = none) : H a = none := k.ex.dom a h
theorem WInv.ne (w : WInv R H) {x} (h : R d = some x) (hp : H p = none) : d ≠ p := by
  obtain ⟨kvs, e, _⟩ := w d x.1 x.2 h
  exact ne_of_none e hp
/-- an object that was not there may come, may change -/
theorem Kp.mut (k : Kp R H0 H) (h0 : H0 p = none) : Kp R H0 (upd H p o) := by
  refine ⟨k.w0, fun d nm r e => ?_, fun b v e n => ?_, fun b e => ?_⟩
  · obtain ⟨kvs, e1, m⟩ := k.w d nm r e
    exact ⟨kvs, by rw [upd_ne (k.w0.ne e h0)]; exact e1, m⟩
  · rw [upd_ne (ne_of_none e h0)]
    exact k.ex.old b v e n
  · by_cases hb : b = p
    · rw [hb]; exact h0
    · rw [upd_ne hb] at e
      exact k.ex.dom b e
theorem Kp.new (k : Kp R H0 H) (h : H p = none) : Kp R H0 (upd H p o) := k.mut (k.fr h)
theorem Kp.upd (w : WInv R H) (h : H p = none) : Kp R H (upd H p o) := (Kp.refl w).mut h
/-- a dict of names that is locked while it is walked -/
theorem Kp.lock {kvs : List (Key × V)} {od : Obj} (w : WInv R H) (h : H d = some (.dK kvs)) : WInv R (L2.upd H d (.frz od (.dK kvs))) := fun c nm r e => by
  obtain ⟨ks, e1, m⟩ := w c nm r e
  have : c ≠ d := fun q => by rw [q, h] at e1; cases e1
  exact ⟨ks, by rw [upd_ne this]; exact e1, m⟩
theorem Kp.unlock {kvs : List (Key × V)} {od : Obj} (w : WInv R H) (h : H d = some (.dK kvs)) (k : Kp R (L2.upd H d (.frz od (.dK kvs))) H') : Kp R H (L2.upd H' d (.dK kvs)) := by
  refine ⟨w, fun c nm r e => ?_, fun b v e n => ?_, fun b e => ?_⟩
  · obtain ⟨ks, e1, m⟩ := k.w c nm r e
    have : c ≠ d := fun q => by
      obtain ⟨ks', e2, _⟩ := w c nm r e
      rw [q, h] at e2; cases e2
    exact ⟨ks, by rw [upd_ne this]; exact e1, m⟩
  · by_cases hb : b = d
    · subst hb
      rw [h] at e
      rw [upd_same]; exact e
    · rw [upd_ne hb]
      exact k.ex.old b v (by rw [upd_ne hb]; exact e) n
  · by_cases hb : b = d
    · subst hb
      rw [upd_same] at e; cases e
    · rw [upd_ne hb] at e
      have := k.ex.dom b e
      rw [upd_ne hb] at this
      exact this
end

/-! ### calls by name -/
section
variable (P : Program) (w : World) (K : PySem.W.Frag) (mg : Str → Option Value) (base : Heap)
structure Call (k : Nat) (x : Str) (ps : List Str) (sp : Sp) : Prop where
  ex : ∃ fd, FnOk P w K mg base CX0 k (He.ga K x) fd ps sp ∧ Binds K fd ps []
  kp : PySem.W.keepIn K (.ref (He.ga K x)) = true
  gm : mg x = some (.ref (He.ga K x))
structure CallM (k : Nat) (c m : Str) (ps : List Str) (sp : Sp) : Prop where
  ex : ∃ fd, FnOk P w K mg base CX0 k (He.ma K (He.ga K c) m) fd ps sp ∧ Binds K fd ps []
end
abbrev BindF (x qual : Str) (st : Stmt) (ps : List Str) : Prop := ∀ (kV doc pm : Value) (an : Option Addr) (cdv ct : Value) (us : List Value), us.length = ps.length → bindArgs (PySem.W.fnOf x qual (defArgs st) (defBody st) (defScope st) .none kV doc pm an cdv ct) ⟨us, []⟩ = pure (ps.zip us)
section
variable {P : Program} {w : World} {K : PySem.W.Frag} {mg : Str → Option Value} {base : Heap}
theorem mkCall {x : Str} {st : Stmt} {N ps : List Str} {k : Nat} {sp : Sp} (d : GDef K mg x st) (S : FnScope N ps (defScope st)) (hb : BindF x x st ps) (len : ∀ vs H Q E, sp vs H Q E → vs.length = ps.length)
    (body : ∀ (cdv : Value) (A : Around) (outer : List Env) (s : Shared) (H : Hp) (vs : List V) (Q : VK) (E : XK), Room k (A.deeper (envOfC x (defScope st) s.heap.objs.size (He.ga K x) cdv)) → sp vs H Q E →
      ∃ t, PSs (cxOf CX0 P w K mg base N x (defScope st) (He.ga K x) cdv A outer s H E).nox (defBody st) t ∧ t { nx := fun _ H' => Q .non H', rt := Q } (start N vs) H) : Call P w K mg base (k + 1) x ps sp := by
  obtain ⟨⟨fd, F⟩, g⟩ := d
  exact ⟨⟨fd, F.ok S len fun cdv A outer s H vs Q E hr h => let ⟨t, a, b⟩ := body cdv A outer s H vs Q E hr h; ⟨t, a.nox, b⟩, F.bindsN hb⟩, F.kp, g⟩
theorem mkMeth {c m qual : Str} {st : Stmt} {N ps : List Str} {k : Nat} {sp : Sp} (d : MDef K c m qual st) (S : FnScope N ps (defScope st)) (hb : BindF m qual st ps) (len : ∀ vs H Q E, sp vs H Q E → vs.length = ps.length)
    (body : ∀ (cdv : Value) (A : Around) (outer : List Env) (s : Shared) (H : Hp) (vs : List V) (Q : VK) (E : XK), Room k (A.deeper (envOfC qual (defScope st) s.heap.objs.size (He.ma K (He.ga K c) m) cdv)) → sp vs H Q E →
      ∃ t, PSs (cxOf CX0 P w K mg base N qual (defScope st) (He.ma K (He.ga K c) m) cdv A outer s H E).nox (defBody st) t ∧ t { nx := fun _ H' => Q .non H', rt := Q } (start N vs) H) : CallM P w K mg base (k + 1) c m ps sp := by
  obtain ⟨fd, F⟩ := d
  exact ⟨⟨fd, F.ok S len fun cdv A outer s H vs Q E hr h => let ⟨t, a, b⟩ := body cdv A outer s H vs Q E hr h; ⟨t, a.nox, b⟩, F.bindsN hb⟩⟩
end
section
variable {X : Cx} {k k' : Nat} {x : Str} {ps : List Str} {sp : Sp} {e : Expr} {es : List Expr} {t : TA} {p pos : Pos}
theorem pe_f (c : Call X.prog X.w X.K X.mg X.base k x ps sp) (hr : Room k' X.A) (ha : PA X (e :: es) t) (hk : k ≤ k' := by decide) (hg : Gl X x := by rfl) (hdb : (x == ("__debug__" : Str)) = false := by decide)
    (he : starEach (e :: es) X.env = (false, eval e X.env) :: starEach es X.env := by rfl) (hpl : (backTo pos (starEach es X.env)).any (·.1) = false := by rfl) : PE X (.Call (.Name x p) (e :: es) [] pos) (tCall sp [] E0 t) := by
  obtain ⟨fd, F, b⟩ := c.ex
  exact pe_call F (hr.mono hk) hg c.gm c.kp b .nil pass0 ha hdb he hpl
end

/-! ### what is walked: items that stand while G holds of the heap -/
structure Src {ι : Type} (G : Hp → Prop) (J : It) (its : List ι) (c : ι → V) : Prop where
  go : ∀ i H, G H → i < its.length → J.go i H
  stop : ∀ H, G H → J.stop its.length H
  yld : ∀ i H x H', i < its.length → G H → J.yld i H x H' → H' = H ∧ ∃ it, its[i]? = some it ∧ x = c it
section
variable {ι : Type} {R : Reg} {G : Hp → Prop} {H1 : Hp} {J : It} {its : List ι} {c : ι → V} {K : PySem.W.Frag} {a : Addr}
theorem src_at {xs : List ι} {i : Nat} {x : V} (h : (xs.map c)[i]? = some x) : ∃ it, xs[i]? = some it ∧ x = c it := by
  rw [List.getElem?_map] at h
  cases e : xs[i]? with
  | none => rw [e] at h; cases h
  | some it => rw [e] at h; exact ⟨it, rfl, (Option.some.inj h).symm⟩
theorem src_sqt (h : ∀ H, G H → SqT K H a (its.map c)) : Src G (Itt K a) its c where
  go := fun i H k hi => ⟨_, c its[i], h H k, by rw [List.getElem?_map, List.getElem?_eq_getElem hi]; rfl⟩
  stop := fun H k => ⟨_, h H k, by rw [List.length_map]; exact Nat.le_refl _⟩
  yld := fun i H x H' hi k y => ⟨y.1, src_at (y.2 _ (h H k))⟩
theorem src_sql (h : ∀ H, G H → SqL K H a (its.map c)) : Src G (Itl K a) its c where
  go := fun i H k hi => ⟨_, c its[i], h H k, by rw [List.getElem?_map, List.getElem?_eq_getElem hi]; rfl⟩
  stop := fun H k => ⟨_, h H k, by rw [List.length_map]; exact Nat.le_refl _⟩
  yld := fun i H x H' hi k y => ⟨y.1, src_at (y.2 _ (h H k))⟩
theorem src_tupG (h : ∀ H, G H → H a = some (.tup (its.map c))) : Src G (Itt K a) its c := src_sqt fun H g => SqT.of (h H g)
theorem src_lstG (h : ∀ H, G H → H a = some (.lst (its.map c))) : Src G (Itl K a) its c := src_sql fun H g => SqL.of (h H g)
theorem src_tup (h : H1 a = some (.tup (its.map c))) : Src (Kp R H1) (Itt K a) its c := src_tupG fun _ k => k.at h
theorem src_lst (h : H1 a = some (.lst (its.map c))) : Src (Kp R H1) (Itl K a) its c := src_lstG fun _ k => k.at h
theorem src_keysG {o : Obj} {kvs : List (Key × V)} (h : ∀ H, G H → H a = some (.frz o (.dK kvs))) : Src G (Itk a o kvs) kvs (fun kv => kV kv.1) where
  go := fun i H k hi => ⟨h H k, hi⟩
  stop := fun H k => ⟨h H k, Nat.le_refl _⟩
  yld := fun i H x H' hi k y => ⟨y.1, let ⟨q, v, e, ex⟩ := y.2; ⟨(q, v), e, ex⟩⟩
theorem src_keys {o : Obj} {kvs : List (Key × V)} (h : H1 a = some (.frz o (.dK kvs))) : Src (Kp R H1) (Itk a o kvs) kvs (fun kv => kV kv.1) := src_keysG fun _ k => k.at h
theorem src_str {x : Str} : Src G (Its x) x.cps.toList (fun c => .str ⟨#[c]⟩) where
  go := fun i H k hi => by rw [Array.length_toList] at hi; exact hi
  stop := fun H k => by rw [Array.length_toList]; exact Nat.le_refl _
  yld := fun i H v H' hi k y => ⟨y.1, let ⟨q, e, ev⟩ := y.2; ⟨q, by rw [Array.getElem?_toList]; exact e, ev⟩⟩
theorem src_rng {lo : Int} {n : Nat} : Src G (Itr lo n) (List.range n) (fun i => .int (lo + (i : Nat))) where
  go := fun i H k hi => by rw [List.length_range] at hi; exact hi
  stop := fun H k => by rw [List.length_range]; exact Nat.le_refl _
  yld := fun i H v H' hi k y => ⟨y.1, i, List.getElem?_range (by rw [List.length_range] at hi; exact hi), y.2⟩
theorem take_succ_at {xs : List ι} {i : Nat} {it : ι} (h : xs[i]? = some it) : xs.take (i + 1) = xs.take i ++ [it] := by
  rw [List.take_add_one, h]; rfl

theorem paired_app {α β : Type} {F : α → β → Prop} : ∀ {a1 : List α} {b1 : List β} {a2 : List α} {b2 : List β}, Paired F a1 b1 → Paired F a2 b2 → Paired F (a1 ++ a2) (b1 ++ b2)
  | _, _, _, _, .nil, q => q
  | _, _, _, _, .cons r t, q => .cons r (paired_app t q)
/-- one turn of a walk: what a turn hands on is nearer to the end -/
abbrev OnI (J : It) (Qd : Hp → Prop) (step : V → Hp → (Hp → Prop) → Prop) (W : Nat → Nat → Hp → Prop) : Prop :=
  ∀ i m H, W i m H → (J.stop i H ∧ Qd H) ∨ (J.go i H ∧ ∃ N : Hp → Prop, (∀ G, N G → ∃ m', m' < m ∧ W (i + 1) m' G) ∧ ∀ x G, J.yld i H x G → step x G N)
/-- what a list comprehension asks, its list at D -/
abbrev LcI (J : It) (H1 : Hp) (D : Addr) (g : TG) (tt : TT) (te : TE) (σ : L2.St) (vs : List Nat) (Qd : Hp → Prop) : Prop := ∃ W : Nat → Nat → Hp → Prop, (∃ m, W 0 m (upd H1 D (.lst []))) ∧
  OnI J Qd (fun x G N => g x (wipe σ vs) G fun τ G2 => wipe τ vs = wipe σ vs ∧ tt τ G2 fun b G3 => if b = true then te τ G3 fun y G4 => ∃ acc, G4 D = some (.lst acc) ∧ acc.length < sizeLine ∧ N (upd G4 D (.lst (acc ++ [y]))) else N G3) W
/-- .. a dict comprehension -/
abbrev DcI (J : It) (H1 : Hp) (D : Addr) (g : TG) (tt : TT) (tk tv : TE) (σ : L2.St) (vs : List Nat) (Qd : Hp → Prop) : Prop := ∃ W : Nat → Nat → Hp → Prop, (∃ m, W 0 m (upd H1 D (.dK []))) ∧
  OnI J Qd (fun x G N => g x (wipe σ vs) G fun τ G2 => wipe τ vs = wipe σ vs ∧ tt τ G2 fun b G3 => if b = true then tk τ G3 fun y G4 => tv τ G4 fun z G5 => ∃ kvs k, y = kV k ∧ G5 D = some (.dK kvs) ∧ kvs.length < sizeLine ∧ N (upd G5 D (.dK (putK kvs k z))) else N G3) W
/-- a comprehension over what stands: S tells each new item -/
theorem lcG {D : Addr} (hD : H1 D = none) (Sr : Src (Kp R H1) J its c) (w : WInv R H1) (hz : its.length ≤ 100000) {g : TG} {tt : TT} {te : TE} {vs : List Nat} {σ : L2.St} {Qd : Hp → Prop} (S : ι → V → Hp → Prop) (T : ι → Bool) (st : ι → L2.St)
    (m1 : ∀ i v H H', Kp R H H' → S i v H → S i v H') (m2 : ∀ i v H xs ys, H D = some (.lst xs) → S i v H → S i v (upd H D (.lst ys)))
    (hw : ∀ i, wipe (st i) vs = wipe σ vs) (hg : ∀ i, i ∈ its → ∀ H, Kp R H1 H → ∀ QG : L2.St → Hp → Prop, QG (st i) H → g (c i) (wipe σ vs) H QG)
    (ht : ∀ i, i ∈ its → ∀ H, Kp R H1 H → ∀ QT : Bool → Hp → Prop, (∀ H', Kp R H H' → QT (T i) H') → tt (st i) H QT)
    (he : ∀ i, i ∈ its → T i = true → ∀ xs H, Kp R H1 H → H D = some (.lst xs) → ∀ Q' : VK, (∀ v H', Kp R H H' → S i v H' → Q' v H') → te (st i) H Q')
    (hq : ∀ H' ys, Kp R H1 H' → H' D = some (.lst ys) → Paired (fun i v => S i v H') (its.filter T) ys → Qd H') :
    LcI J H1 D g tt te σ vs Qd := by
  let Pv : Nat → Hp → Prop := fun i H => Kp R H1 H ∧ ∃ ys, H D = some (.lst ys) ∧ Paired (fun i v => S i v H) ((its.take i).filter T) ys
  refine ⟨fun i m H => m = its.length - i ∧ i ≤ its.length ∧ Pv i H, ⟨_, rfl, Nat.zero_le _, Kp.upd w hD, [], upd_same, .nil⟩, ?_⟩
  rintro i m H ⟨rfl, hi, k, ys, hys, hp⟩
  by_cases hlt : i < its.length
  · refine .inr ⟨Sr.go i H k hlt, Pv (i + 1), fun H' p' => ⟨its.length - (i + 1), by omega, rfl, hlt, p'⟩, fun x H' y => ?_⟩
    obtain ⟨rfl, it, hit, rfl⟩ := Sr.yld i H x H' hlt k y
    have hm : it ∈ its := List.mem_of_getElem? hit
    refine hg it hm _ k _ ⟨hw it, ht it hm _ k _ fun H2 k2 => ?_⟩
    have e1 := take_succ_at hit
    have hys2 := k2.at hys
    have hp2 := L2.Paired.mapP hp fun a b => m1 a b _ _ k2
    by_cases hT : T it = true
    · rw [if_pos hT]
      refine he it hm hT ys H2 (k.trans k2) hys2 _ fun v H3 k3 hS => ?_
      have hl : ys.length ≤ its.length := by
        rw [← hp.length]
        exact Nat.le_trans (List.length_filter_le _ _) (by rw [List.length_take]; exact Nat.min_le_right _ _)
      refine ⟨ys, k3.at hys2, Nat.lt_of_le_of_lt (Nat.le_trans hl hz) (by decide), ((k.trans k2).trans k3).mut hD, ys ++ [v], upd_same, ?_⟩
      rw [e1, List.filter_append]
      have : List.filter T [it] = [it] := by simp [hT]
      rw [this]
      have q : Paired (fun i u => S i u (upd H3 D (.lst (ys ++ [v])))) ((its.take i).filter T) ys := L2.Paired.mapP hp2 fun a b z => m2 a b H3 ys _ (k3.at hys2) (m1 a b _ _ k3 z)
      exact paired_app q (.cons (m2 it v H3 ys _ (k3.at hys2) hS) .nil)
    · rw [if_neg hT]
      refine ⟨k.trans k2, ys, hys2, ?_⟩
      rw [e1, List.filter_append]
      have : List.filter T [it] = [] := by simp [hT]
      rw [this, List.append_nil]
      exact hp2
  · have e : i = its.length := by omega
    subst e
    rw [List.take_length] at hp
    exact .inl ⟨Sr.stop H k, hq H ys k hys hp⟩
theorem paired_map {α : Type} {f : ι → α} : ∀ {a : List ι} {b : List α}, Paired (fun i v => v = f i) a b → b = a.map f
  | _, _, .nil => rfl
  | _, _, .cons r t => by rw [List.map_cons, ← paired_map t, r]
/-- .. each new item a value that its item tells; the target a name -/
theorem lcN {D : Addr} (hD : H1 D = none) (Sr : Src (Kp R H1) J its c) (w : WInv R H1) (hz : its.length ≤ 100000) {j : Nat} {tt : TT} {te : TE} {vs : List Nat} {σ : L2.St} {Qd : Hp → Prop} (T : ι → Bool) (F : ι → V)
    (hw : ∀ v, wipe ((wipe σ vs).set j (some v)) vs = wipe σ vs)
    (ht : ∀ i, i ∈ its → ∀ H, Kp R H1 H → ∀ QT : Bool → Hp → Prop, (∀ H', Kp R H H' → QT (T i) H') → tt ((wipe σ vs).set j (some (c i))) H QT)
    (he : ∀ i, i ∈ its → T i = true → ∀ H, Kp R H1 H → ∀ Q' : VK, (∀ H', Kp R H H' → Q' (F i) H') → te ((wipe σ vs).set j (some (c i))) H Q')
    (hq : ∀ H', Kp R H1 H' → H' D = some (.lst ((its.filter T).map F)) → Qd H') :
    LcI J H1 D (gName j) tt te σ vs Qd :=
  lcG hD Sr w hz (fun i v _ => v = F i) T (fun i => (wipe σ vs).set j (some (c i))) (fun _ _ _ _ _ h => h) (fun _ _ _ _ _ _ h => h) (fun i => hw (c i)) (fun _ _ _ _ _ q => q) ht
    (fun i hi hT xs H k _ Q' q => he i hi hT H k Q' fun H' k' => q (F i) H' k' rfl)
    fun H' ys k e p => hq H' k (by rw [e, paired_map p])

/-- .. without a test -/
theorem lcA {D : Addr} (hD : H1 D = none) (Sr : Src (Kp R H1) J its c) (w : WInv R H1) (hz : its.length ≤ 100000) {j : Nat} {te : TE} {vs : List Nat} {σ : L2.St} {Qd : Hp → Prop} (F : ι → V)
    (hw : ∀ v, wipe ((wipe σ vs).set j (some v)) vs = wipe σ vs)
    (he : ∀ i, i ∈ its → ∀ H, Kp R H1 H → ∀ Q' : VK, (∀ H', Kp R H H' → Q' (F i) H') → te ((wipe σ vs).set j (some (c i))) H Q')
    (hq : ∀ H', Kp R H1 H' → H' D = some (.lst (its.map F)) → Qd H') :
    LcI J H1 D (gName j) tYes te σ vs Qd :=
  lcN hD Sr w hz (fun _ => true) F hw (fun i hi H k QT q => q H (Kp.refl k.w)) (fun i hi _ => he i hi) fun H' k e => hq H' k (by rw [e, List.filter_eq_self.mpr (fun _ _ => rfl)])
theorem dT {p : Prop} [Decidable p] (h : p) : V.bl (decide p) = V.bl true := by rw [decide_eq_true h]
theorem dF {p : Prop} [Decidable p] (h : ¬ p) : V.bl (decide p) = V.bl false := by rw [decide_eq_false h]

/-- a loop over what stands -/
theorem forG (Sr : Src G J its c) {g : TG} {tb : TS} {D : Ends} {σ : L2.St} (Pv : Nat → L2.St → Hp → Prop) (hk : ∀ i σ H, Pv i σ H → G H) (h0 : Pv 0 σ H1)
    (hs : ∀ i it σ H, its[i]? = some it → Pv i σ H → g (c it) σ H fun σ2 H2 => tb { D with nx := Pv (i + 1), ct := Pv (i + 1), bk := D.nx } σ2 H2) (hd : ∀ σ H, Pv its.length σ H → D.nx σ H) :
    ∃ W : Nat → Nat → L2.St → Hp → Prop, (∃ m, W 0 m σ H1) ∧ ∀ i m σ H, W i m σ H →
      (J.stop i H ∧ D.nx σ H) ∨ (J.go i H ∧ ∃ N : L2.St → Hp → Prop, (∀ σ' H', N σ' H' → ∃ m', m' < m ∧ W (i + 1) m' σ' H') ∧ ∀ x H', J.yld i H x H' → g x σ H' fun σ2 H2 => tb { D with nx := N, ct := N, bk := D.nx } σ2 H2) := by
  refine ⟨fun i m σ H => m = its.length - i ∧ i ≤ its.length ∧ Pv i σ H, ⟨_, rfl, Nat.zero_le _, h0⟩, ?_⟩
  rintro i m σ H ⟨rfl, hi, p⟩
  have k := hk i σ H p
  by_cases hlt : i < its.length
  · refine .inr ⟨Sr.go i H k hlt, Pv (i + 1), fun σ' H' p' => ⟨its.length - (i + 1), by omega, rfl, hlt, p'⟩, fun x H' y => ?_⟩
    obtain ⟨rfl, it, hit, rfl⟩ := Sr.yld i H x H' hlt k y
    exact hs i it σ _ hit p
  · have e : i = its.length := by omega
    subst e
    exact .inl ⟨Sr.stop H k, hd σ H p⟩
/-- a loop over enumerate(..) of what stands: each pair is a new tuple -/
theorem forE (h : ∀ H, G H → SqL K H a (its.map c)) {g : TG} {tb : TS} {D : Ends} {σ : L2.St} (Pv : Nat → L2.St → Hp → Prop) (hk : ∀ i σ H, Pv i σ H → G H) (h0 : Pv 0 σ H1)
    (hs : ∀ i it σ H t, its[i]? = some it → Pv i σ H → H t = none → g (.ref t) σ (upd H t (.tup [.int (i : Nat), c it])) fun σ2 H2 => tb { D with nx := Pv (i + 1), ct := Pv (i + 1), bk := D.nx } σ2 H2) (hd : ∀ σ H, Pv its.length σ H → D.nx σ H) :
    ∃ W : Nat → Nat → L2.St → Hp → Prop, (∃ m, W 0 m σ H1) ∧ ∀ i m σ H, W i m σ H →
      ((Ite K a).stop i H ∧ D.nx σ H) ∨ ((Ite K a).go i H ∧ ∃ N : L2.St → Hp → Prop, (∀ σ' H', N σ' H' → ∃ m', m' < m ∧ W (i + 1) m' σ' H') ∧ ∀ x H', (Ite K a).yld i H x H' → g x σ H' fun σ2 H2 => tb { D with nx := N, ct := N, bk := D.nx } σ2 H2) := by
  refine ⟨fun i m σ H => m = its.length - i ∧ i ≤ its.length ∧ Pv i σ H, ⟨_, rfl, Nat.zero_le _, h0⟩, ?_⟩
  rintro i m σ H ⟨rfl, hi, p⟩
  have k := hk i σ H p
  have hS := h H k
  by_cases hlt : i < its.length
  · refine .inr ⟨⟨_, c its[i], hS, by rw [List.getElem?_map, List.getElem?_eq_getElem hlt]; rfl⟩, Pv (i + 1), fun σ' H' p' => ⟨its.length - (i + 1), by omega, rfl, hlt, p'⟩, fun x H' y => ?_⟩
    obtain ⟨t, x', rfl, ht, rfl, hx⟩ := y
    obtain ⟨it, hit, rfl⟩ := src_at (hx _ hS)
    exact hs i it σ _ t hit p ht
  · have e : i = its.length := by omega
    subst e
    exact .inl ⟨⟨_, hS, by rw [List.length_map]; exact Nat.le_refl _⟩, hd σ H p⟩
/-- a key that stands not -/
theorem valV_no {κ : Type} [DecidableEq κ] {kvs : List (κ × V)} {k : κ} (h : k ∉ kvs.map (·.1)) : valV kvs k = none := by
  cases e : valV kvs k with
  | none => rfl
  | some v =>
    unfold valV at e
    obtain ⟨kv, h1, _⟩ := Option.map_eq_some_iff.mp e
    have h2 := List.find?_some h1
    exact absurd (List.mem_map.mpr ⟨kv, List.mem_of_find?_eq_some h1, of_decide_eq_true h2⟩) h
theorem valV_yes {κ : Type} [DecidableEq κ] {kvs : List (κ × V)} {k : κ} {v : V} (h : valV kvs k = some v) : k ∈ kvs.map (·.1) := by
  apply Classical.byContradiction
  intro q
  rw [valV_no q] at h
  cases h
theorem inV_str {x : Str} {A : List Str} : inV (.str x) (A.map V.str) = decide (x ∈ A) := by
  unfold inV
  induction A with
  | nil => rfl
  | cons y A ih =>
    rw [List.map_cons, List.any_cons, ih]
    have e : eqV (.str y) (.str x) = decide (x = y) := by
      show (y == x) = _
      by_cases q : x = y
      · subst q; simp
      · rw [decide_eq_false q]; exact beq_eq_false_iff_ne.mpr fun z => q z.symm
    rw [e]
    by_cases q : x = y
    · subst q; simp
    · simp [q]
theorem flat_strs (A : List Str) : (A.map V.str).all flatV = true := by
  rw [List.all_map, List.all_eq_true]; intro x _; rfl
/-- a dict comprehension over names that stand, its keys these names: z tells each value -/
theorem dcG {D : Addr} (hD : H1 D = none) (Sr : Src (Kp R H1) J its c) (w : WInv R H1) (hz : its.length ≤ 100000) {j : Nat} {tt : TT} {tk tv : TE} {vs : List Nat} {σ : L2.St} {Qd : Hp → Prop} (S : ι → V → Hp → Prop) (q : ι → Key)
    (m1 : ∀ i v H H', Kp R H H' → S i v H → S i v H') (m2 : ∀ i v H xs ys, H D = some (.dK xs) → S i v H → S i v (upd H D (.dK ys)))
    (nd : (its.map q).Nodup) (hw : ∀ v, wipe ((wipe σ vs).set j (some v)) vs = wipe σ vs)
    (ht : ∀ i, i ∈ its → ∀ H (QT : Bool → Hp → Prop), QT true H → tt ((wipe σ vs).set j (some (c i))) H QT)
    (hk : ∀ i, i ∈ its → ∀ H (Q' : VK), Q' (kV (q i)) H → tk ((wipe σ vs).set j (some (c i))) H Q')
    (he : ∀ i, i ∈ its → ∀ H, Kp R H1 H → ∀ Q' : VK, (∀ v H', Kp R H H' → S i v H' → Q' v H') → tv ((wipe σ vs).set j (some (c i))) H Q')
    (hq : ∀ H' kvs, Kp R H1 H' → H' D = some (.dK kvs) → Paired (fun i kv => kv.1 = q i ∧ S i kv.2 H') its kvs → Qd H') :
    DcI J H1 D (gName j) tt tk tv σ vs Qd := by
  let Pv : Nat → Hp → Prop := fun i H => Kp R H1 H ∧ ∃ kvs, H D = some (.dK kvs) ∧ Paired (fun i (kv : Key × V) => kv.1 = q i ∧ S i kv.2 H) (its.take i) kvs
  refine ⟨fun i m H => m = its.length - i ∧ i ≤ its.length ∧ Pv i H, ⟨_, rfl, Nat.zero_le _, Kp.upd w hD, [], upd_same, .nil⟩, ?_⟩
  rintro i m H ⟨rfl, hi, k, ys, hys, hp⟩
  by_cases hlt : i < its.length
  · refine .inr ⟨Sr.go i H k hlt, Pv (i + 1), fun H' p' => ⟨its.length - (i + 1), by omega, rfl, hlt, p'⟩, fun x H' y => ?_⟩
    obtain ⟨rfl, it, hit, rfl⟩ := Sr.yld i H x H' hlt k y
    have hm : it ∈ its := List.mem_of_getElem? hit
    refine ⟨hw _, ht it hm _ _ ?_⟩
    rw [if_pos rfl]
    refine hk it hm _ _ (he it hm _ k _ fun v H3 k3 hS => ?_)
    have e1 := take_succ_at hit
    have hl : ys.length ≤ its.length := by
      rw [← hp.length, List.length_take]; exact Nat.min_le_right _ _
    have new : valV ys (q it) = none := by
      have keys : ys.map (·.1) = (its.take i).map q := by
        have aux : ∀ {a : List ι} {b : List (Key × V)}, Paired (fun i (kv : Key × V) => kv.1 = q i ∧ S i kv.2 H') a b → b.map (·.1) = a.map q := by
          intro a b pp
          induction pp with
          | nil => rfl
          | cons r t ih => rw [List.map_cons, List.map_cons, ih, r.1]
        exact aux hp
      cases e : valV ys (q it) with
      | none => rfl
      | some v' =>
        have hin : q it ∈ ys.map (·.1) := by
          unfold valV at e
          obtain ⟨kv, h1, _⟩ := Option.map_eq_some_iff.mp e
          have h2 := List.find?_some h1
          exact List.mem_map.mpr ⟨kv, List.mem_of_find?_eq_some h1, of_decide_eq_true h2⟩
        rw [keys] at hin
        have nd' := nd
        rw [← List.take_append_drop i its, List.map_append, List.nodup_append] at nd'
        have : q it ∈ (its.drop i).map q := List.mem_map.mpr ⟨it, List.mem_of_getElem? (i := 0) (by rw [List.getElem?_drop]; exact hit), rfl⟩
        exact absurd rfl (nd'.2.2 _ hin _ this)
    refine ⟨ys, q it, rfl, k3.at hys, Nat.lt_of_le_of_lt (Nat.le_trans hl hz) (by decide), (k.trans k3).mut hD, _, upd_same, ?_⟩
    rw [e1, putK_new v new]
    have p2 : Paired (fun i (kv : Key × V) => kv.1 = q i ∧ S i kv.2 (upd H3 D (.dK (ys ++ [(q it, v)])))) (its.take i) ys := L2.Paired.mapP hp fun a b z => ⟨z.1, m2 a b.2 H3 ys _ (k3.at hys) (m1 a b.2 _ _ k3 z.2)⟩
    exact paired_app p2 (.cons ⟨rfl, m2 it v H3 ys _ (k3.at hys) hS⟩ .nil)
  · have e : i = its.length := by omega
    subst e
    rw [List.take_length] at hp
    exact .inl ⟨Sr.stop H k, hq H ys k hys hp⟩
theorem paired_zip {α β : Type} {F : α → β → Prop} : ∀ {a : List α} {b : List β}, Paired F a b → ∃ its : List (α × β), a = its.map (·.1) ∧ b = its.map (·.2) ∧ ∀ p, p ∈ its → F p.1 p.2
  | _, _, .nil => ⟨[], rfl, rfl, fun p hp => by cases hp⟩
  | a :: _, b :: _, .cons r t => by
    obtain ⟨its, e1, e2, h⟩ := paired_zip t
    refine ⟨(a, b) :: its, by rw [e1]; rfl, by rw [e2]; rfl, fun p hp => ?_⟩
    rcases List.mem_cons.mp hp with q | q
    · rw [q]; exact r
    · exact h p q
theorem paired_of_zip {α β : Type} {F : α → β → Prop} : ∀ (its : List (α × β)), (∀ p, p ∈ its → F p.1 p.2) → Paired F (its.map (·.1)) (its.map (·.2))
  | [], _ => .nil
  | p :: its, h => .cons (h p List.mem_cons_self) (paired_of_zip its fun q hq => h q (List.mem_cons_of_mem _ hq))
end
end Bw
set_option Elab.async false
set_option maxHeartbeats 4000000
set_option linter.all false
/-! rank functions over lists that are read as sets -/
namespace Bf
variable {α : Type} [DecidableEq α]

/-- the things of A that are not in S -/
def rem (A S : List α) : List α := A.filter fun x => decide (x ∉ S)
theorem mem_rem {A S : List α} {x : α} : x ∈ rem A S ↔ x ∈ A ∧ x ∉ S := by simp [rem]
theorem rem_nodup {A S : List α} (h : A.Nodup) : (rem A S).Nodup := h.filter _
theorem rem_len_mem {A : List α} (h : A.Nodup) {y : α} (hy : y ∈ A) : (rem A [y]).length + 1 = A.length := by
  induction A with
  | nil => cases hy
  | cons a A ih =>
    rw [List.nodup_cons] at h
    by_cases e : a = y
    · subst e
      have : rem (a :: A) [a] = A := by
        unfold rem
        rw [List.filter_cons_of_neg (by simp)]
        exact List.filter_eq_self.mpr fun x hx => by
          have : x ≠ a := fun q => h.1 (q ▸ hx)
          simp [this]
      rw [this]; rfl
    · have hy' : y ∈ A := by
        rcases List.mem_cons.mp hy with q | q
        · exact absurd q.symm e
        · exact q
      have : rem (a :: A) [y] = a :: rem A [y] := by
        unfold rem
        rw [List.filter_cons_of_pos (by simp [e])]
      rw [this, List.length_cons, List.length_cons, ih h.2 hy']

/-- a nodup list within another one is no longer -/
theorem nodup_le {A B : List α} (h : A.Nodup) (s : ∀ x, x ∈ A → x ∈ B) : A.length ≤ B.length := by
  induction A generalizing B with
  | nil => exact Nat.zero_le _
  | cons a A ih =>
    rw [List.nodup_cons] at h
    have ha : a ∈ B := s a (List.mem_cons_self)
    have hs : ∀ x, x ∈ A → x ∈ B.erase a := fun x hx => by
      have hx' := s x (List.mem_cons_of_mem _ hx)
      have ne : x ≠ a := fun q => h.1 (q ▸ hx)
      exact (List.mem_erase_of_ne ne).mpr hx'
    have := ih h.2 hs
    have hl := List.length_erase_of_mem ha
    have pos : 0 < B.length := List.length_pos_of_mem ha
    rw [List.length_cons]
    omega
theorem nodup_len_eq {A B : List α} (ha : A.Nodup) (hb : B.Nodup) (s : ∀ x, x ∈ A ↔ x ∈ B) : A.length = B.length :=
  Nat.le_antisymm (nodup_le ha fun x => (s x).mp) (nodup_le hb fun x => (s x).mpr)
/-- within and not shorter: the same -/
theorem nodup_full {A B : List α} (ha : A.Nodup) (s : ∀ x, x ∈ A → x ∈ B) (l : B.length ≤ A.length) : ∀ x, x ∈ B → x ∈ A := by
  intro x hx
  by_cases h : x ∈ A
  · exact h
  · have : (x :: A).length ≤ B.length := nodup_le (List.nodup_cons.mpr ⟨h, ha⟩) fun z hz => by
      rcases List.mem_cons.mp hz with q | q
      · exact q ▸ hx
      · exact s z q
    rw [List.length_cons] at this
    omega

structure IsRk (r : List α → Nat) : Prop where
  nil : r [] = 0
  ext : ∀ A B, (∀ x, x ∈ A ↔ x ∈ B) → r A = r B
  le1 : ∀ x A, r (x :: A) ≤ r A + 1
  ge : ∀ x A, r A ≤ r (x :: A)
  loc : ∀ x y A, r (x :: A) = r A → r (y :: A) = r A → r (x :: y :: A) = r A

/-- x is in the span of A -/
def Cl (r : List α → Nat) (A : List α) (x : α) : Prop := r (x :: A) = r A
def Ind (r : List α → Nat) (A : List α) : Prop := r A = A.length

section
variable {r : List α → Nat} (R : IsRk r)
include R
theorem IsRk.app_ge (C A : List α) : r A ≤ r (C ++ A) := by
  induction C with
  | nil => exact Nat.le_refl _
  | cons c C ih => exact Nat.le_trans ih (R.ge c (C ++ A))
theorem IsRk.app_le (C A : List α) : r (C ++ A) ≤ r A + C.length := by
  induction C with
  | nil => exact Nat.le_refl _
  | cons c C ih =>
    have := R.le1 c (C ++ A)
    rw [List.length_cons]
    show r (c :: (C ++ A)) ≤ _
    omega
theorem IsRk.mono {A B : List α} (s : ∀ x, x ∈ A → x ∈ B) : r A ≤ r B := by
  have e : r (B ++ A) = r B := R.ext _ _ fun x => by
    rw [List.mem_append]
    exact ⟨fun h => h.elim id (s x), Or.inl⟩
  rw [← e]
  exact R.app_ge B A
theorem IsRk.le_len (A : List α) : r A ≤ A.length := by
  have := R.app_le A []
  rw [List.append_nil, R.nil] at this
  omega
theorem Cl.of_mem {A : List α} {x : α} (h : x ∈ A) : Cl r A x := R.ext _ _ fun z => by
  rw [List.mem_cons]
  exact ⟨fun q => q.elim (fun e => e ▸ h) id, Or.inr⟩
theorem Cl.ext {A B : List α} {x : α} (s : ∀ x, x ∈ A ↔ x ∈ B) (h : Cl r A x) : Cl r B x := by
  have e1 : r (x :: A) = r (x :: B) := R.ext _ _ fun z => by simp [s z]
  have e2 : r A = r B := R.ext _ _ s
  show r (x :: B) = r B
  rw [← e1, ← e2]
  exact h
theorem IsRk.not_cl {A : List α} {x : α} (h : ¬ Cl r A x) : r (x :: A) = r A + 1 := by
  have h1 := R.le1 x A
  have h2 := R.ge x A
  have h3 : r (x :: A) ≠ r A := h
  omega
theorem IsRk.swap (x y : α) (A : List α) : r (x :: y :: A) = r (y :: x :: A) := R.ext _ _ fun z => by
  simp only [List.mem_cons]
  exact ⟨fun h => h.elim (fun e => Or.inr (Or.inl e)) (fun h => h.elim Or.inl fun e => Or.inr (Or.inr e)), fun h => h.elim (fun e => Or.inr (Or.inl e)) (fun h => h.elim Or.inl fun e => Or.inr (Or.inr e))⟩
theorem Cl.cons {A : List α} {x : α} (h : Cl r A x) (y : α) : Cl r (y :: A) x := by
  by_cases hy : Cl r A y
  · have e : r (x :: y :: A) = r A := R.loc x y A h hy
    show r (x :: y :: A) = r (y :: A)
    rw [e]; exact hy.symm
  · have e1 := R.not_cl hy
    have e2 := R.le1 y (x :: A)
    have e3 : r (x :: A) = r A := h
    have e4 := R.ge x (y :: A)
    have e5 := R.swap x y A
    show r (x :: y :: A) = r (y :: A)
    omega
theorem Cl.app {A : List α} {x : α} (h : Cl r A x) (C : List α) : Cl r (C ++ A) x := by
  induction C with
  | nil => exact h
  | cons c C ih => exact ih.cons R c
theorem Cl.mono {A B : List α} {x : α} (h : Cl r A x) (s : ∀ z, z ∈ A → z ∈ B) : Cl r B x := by
  refine (h.app R B).ext R fun z => ?_
  rw [List.mem_append]
  exact ⟨fun q => q.elim id (s z), Or.inl⟩
theorem IsRk.app_cl {A : List α} : ∀ (B : List α), (∀ x, x ∈ B → Cl r A x) → r (B ++ A) = r A
  | [], _ => rfl
  | b :: B, h => by
    have ih := IsRk.app_cl (A := A) B fun x hx => h x (List.mem_cons_of_mem _ hx)
    have hb : Cl r (B ++ A) b := (h b List.mem_cons_self).app R B
    show r (b :: (B ++ A)) = r A
    rw [← ih]; exact hb
theorem IsRk.le_cl {A B : List α} (h : ∀ x, x ∈ B → Cl r A x) : r B ≤ r A := by
  rw [← R.app_cl B h]
  exact R.mono fun x hx => List.mem_append.mpr (Or.inl hx)
/-- a span is a span's span -/
theorem Cl.trans {A B : List α} {x : α} (h : ∀ z, z ∈ B → Cl r A z) (hx : Cl r B x) : Cl r A x := by
  have e := R.app_cl B h
  have h1 : Cl r (B ++ A) x := hx.mono R fun z hz => List.mem_append.mpr (Or.inl hz)
  have h2 : r (x :: (B ++ A)) = r (B ++ A) := h1
  have h3 : r (x :: A) ≤ r (x :: (B ++ A)) := R.mono fun z hz => by
    rcases List.mem_cons.mp hz with q | q
    · exact List.mem_cons.mpr (Or.inl q)
    · exact List.mem_cons.mpr (Or.inr (List.mem_append.mpr (Or.inr q)))
  have h4 := R.ge x A
  show r (x :: A) = r A
  omega
theorem Ind.nodup {A : List α} (h : Ind r A) : A.Nodup := by
  induction A with
  | nil => exact List.nodup_nil
  | cons a A ih =>
    have h' : r (a :: A) = A.length + 1 := h
    have h1 := R.le1 a A
    have h2 := R.le_len A
    refine List.nodup_cons.mpr ⟨fun ha => ?_, ih (show r A = A.length by omega)⟩
    have : r (a :: A) = r A := Cl.of_mem R ha
    omega
theorem Ind.nil : Ind r [] := R.nil
theorem Ind.tail {a : α} {A : List α} (h : Ind r (a :: A)) : Ind r A := by
  have h' : r (a :: A) = A.length + 1 := h
  have h1 := R.le1 a A
  have h2 := R.le_len A
  show r A = A.length
  omega
theorem Ind.of_ext {A B : List α} (h : Ind r A) (hb : B.Nodup) (s : ∀ x, x ∈ A ↔ x ∈ B) : Ind r B := by
  have e := R.ext A B s
  have l := nodup_len_eq (h.nodup R) hb s
  show r B = B.length
  rw [← e, ← l]; exact h
theorem Ind.sub {A B : List α} (h : Ind r A) (hb : B.Nodup) (s : ∀ x, x ∈ B → x ∈ A) : Ind r B := by
  have e : r (rem A B ++ B) = r A := R.ext _ _ fun x => by
    rw [List.mem_append, mem_rem]
    constructor
    · rintro (q | q)
      · exact q.1
      · exact s x q
    · intro q
      by_cases hx : x ∈ B
      · exact Or.inr hx
      · exact Or.inl ⟨q, hx⟩
  have l : (rem A B ++ B).length = A.length := by
    refine nodup_len_eq ?_ (h.nodup R) fun x => ?_
    · rw [List.nodup_append]
      exact ⟨rem_nodup (h.nodup R), hb, fun x hx y hy e => (mem_rem.mp hx).2 (e ▸ hy)⟩
    · rw [List.mem_append, mem_rem]
      constructor
      · rintro (q | q)
        · exact q.1
        · exact s x q
      · intro q
        by_cases hx : x ∈ B
        · exact Or.inr hx
        · exact Or.inl ⟨q, hx⟩
  have h1 := R.app_le (rem A B) B
  have h2 := R.le_len B
  have h3 : r A = A.length := h
  rw [List.length_append] at l
  show r B = B.length
  omega
theorem Ind.cons {A : List α} {x : α} (h : Ind r A) (hx : ¬ Cl r A x) : Ind r (x :: A) := by
  have := R.not_cl hx
  have h' : r A = A.length := h
  show r (x :: A) = A.length + 1
  omega
theorem Ind.ncl {A : List α} {x : α} (h : Ind r (x :: A)) : ¬ Cl r A x := fun q => by
  have h1 : r (x :: A) = A.length + 1 := h
  have h2 : r (x :: A) = r A := q
  have h3 := R.le_len A
  omega
theorem Ind.rem {A S : List α} (h : Ind r A) : Ind r (rem A S) := h.sub R (rem_nodup (h.nodup R)) fun x hx => (mem_rem.mp hx).1
/-- a greater free lot helps a lesser one -/
theorem Ind.aug {A B : List α} (ha : Ind r A) (hb : Ind r B) (l : A.length < B.length) : ∃ x, x ∈ B ∧ x ∉ A ∧ Ind r (x :: A) := by
  apply Classical.byContradiction
  intro no
  have h : ∀ x, x ∈ B → Cl r A x := fun x hx => by
    by_cases hxa : x ∈ A
    · exact Cl.of_mem R hxa
    · apply Classical.byContradiction
      intro q
      exact no ⟨x, hx, hxa, ha.cons R q⟩
  have h1 := R.le_cl h
  have h2 : r A = A.length := ha
  have h3 : r B = B.length := hb
  omega
/-- what is spanned without each of some things is spanned without all of them -/
theorem cl_rem {I : List α} (hI : Ind r I) {x : α} (hx : Cl r I x) : ∀ (S : List α), (∀ a, a ∈ S → Cl r (Bf.rem I [a]) x) → Cl r (Bf.rem I S) x
  | [], _ => hx.mono R fun z hz => mem_rem.mpr ⟨hz, by simp⟩
  | a :: S, h => by
    have ih := cl_rem hI hx S fun b hb => h b (List.mem_cons_of_mem _ hb)
    have ha := h a List.mem_cons_self
    by_cases hin : a ∈ I ∧ a ∉ S
    · apply Classical.byContradiction
      intro no
      have nd := hI.nodup R
      -- T = rem I (a :: S); a :: T is rem I S
      have eT : ∀ z, z ∈ a :: Bf.rem I (a :: S) ↔ z ∈ Bf.rem I S := fun z => by
        simp only [List.mem_cons, mem_rem]
        constructor
        · rintro (q | q)
          · exact q ▸ hin
          · exact ⟨q.1, fun w => q.2 (Or.inr w)⟩
        · rintro ⟨q1, q2⟩
          by_cases e : z = a
          · exact Or.inl e
          · exact Or.inr ⟨q1, fun w => w.elim e q2⟩
      have h1 : Cl r (a :: Bf.rem I (a :: S)) x := ih.ext R fun z => (eT z).symm
      have e1 : r (x :: a :: Bf.rem I (a :: S)) = r (a :: Bf.rem I (a :: S)) := h1
      have e2 := R.not_cl no
      have e3 := R.le1 a (Bf.rem I (a :: S))
      have e4 := R.swap x a (Bf.rem I (a :: S))
      have e5 := R.ge a (x :: Bf.rem I (a :: S))
      have c1 : Cl r (x :: Bf.rem I (a :: S)) a := by
        show r (a :: x :: Bf.rem I (a :: S)) = r (x :: Bf.rem I (a :: S))
        omega
      have c2 : Cl r (x :: Bf.rem I [a]) a := c1.mono R fun z hz => by
        rcases List.mem_cons.mp hz with q | q
        · exact List.mem_cons.mpr (Or.inl q)
        · rw [mem_rem] at q
          exact List.mem_cons.mpr (Or.inr (mem_rem.mpr ⟨q.1, fun w => q.2 (List.mem_cons.mpr (Or.inl (by simpa using w)))⟩))
      have f1 : r (a :: x :: Bf.rem I [a]) = r (x :: Bf.rem I [a]) := c2
      have f2 : r (x :: Bf.rem I [a]) = r (Bf.rem I [a]) := ha
      have f3 := R.le_len (Bf.rem I [a])
      have f4 := rem_len_mem nd hin.1
      have f5 : r I ≤ r (a :: x :: Bf.rem I [a]) := R.mono fun z hz => by
        by_cases e : z = a
        · exact List.mem_cons.mpr (Or.inl e)
        · exact List.mem_cons.mpr (Or.inr (List.mem_cons.mpr (Or.inr (mem_rem.mpr ⟨hz, by simpa using e⟩))))
      have f6 : r I = I.length := hI
      omega
    · refine ih.ext R fun z => ?_
      simp only [mem_rem, List.mem_cons]
      constructor
      · rintro ⟨q1, q2⟩
        refine ⟨q1, fun w => w.elim (fun e => hin (e ▸ ⟨q1, q2⟩)) q2⟩
      · rintro ⟨q1, q2⟩
        exact ⟨q1, fun w => q2 (Or.inr w)⟩
end

/-- I without y and with x is free -/
def Ex (r : List α → Nat) (I : List α) (y x : α) : Prop := Ind r (x :: rem I [y])
section
variable {r : List α → Nat} (R : IsRk r)
include R
theorem Ex.ncl {I : List α} {y x : α} (h : Ex r I y x) : ¬ Cl r (rem I [y]) x := Ind.ncl R h
theorem Ex.of {I : List α} (hI : Ind r I) {y x : α} (h : ¬ Cl r (rem I [y]) x) : Ex r I y x := (hI.rem R).cons R h
theorem Ex.of_free {I : List α} {y x : α} (h : Ind r (x :: I)) : Ex r I y x := by
  refine h.sub R ?_ fun z hz => ?_
  · have nd := h.nodup R
    rw [List.nodup_cons] at nd
    exact List.nodup_cons.mpr ⟨fun q => nd.1 (mem_rem.mp q).1, rem_nodup nd.2⟩
  · rcases List.mem_cons.mp hz with q | q
    · exact List.mem_cons.mpr (Or.inl q)
    · exact List.mem_cons.mpr (Or.inr (mem_rem.mp q).1)
/-- for two free lots of one size and a thing of the second alone: an exchange that serves both -/
theorem sym_ex {I L : List α} (hI : Ind r I) (hL : Ind r L) (l : I.length = L.length) {x : α} (hx : x ∈ L) (hxi : x ∉ I) : ∃ y, y ∈ I ∧ y ∉ L ∧ Ex r I y x ∧ Ex r L x y := by
  have ndL := hL.nodup R
  have hLx : Ind r (rem L [x]) := hL.rem R
  have lL := rem_len_mem ndL hx
  by_cases hc : Cl r I x
  · -- the things of I that may go for x
    apply Classical.byContradiction
    intro no
    have h1 : ∀ y, y ∈ I → y ∉ L → Ex r I y x → Cl r (rem L [x]) y := fun y hy hyl e => by
      apply Classical.byContradiction
      intro q
      exact no ⟨y, hy, hyl, e, hLx.cons R q⟩
    -- S: those that may not
    let S := I.filter fun y => decide (r (x :: rem I [y]) = r (rem I [y]))
    have hS : ∀ a, a ∈ S → Cl r (rem I [a]) x := fun a ha => by
      have := (List.mem_filter.mp ha).2
      show r (x :: rem I [a]) = r (rem I [a])
      exact of_decide_eq_true this
    have c1 := cl_rem R hI hc S hS
    have c2 : ∀ z, z ∈ rem I S → Cl r (rem L [x]) z := fun z hz => by
      rw [mem_rem] at hz
      have hz2 : ¬ Cl r (rem I [z]) x := fun q => hz.2 (List.mem_filter.mpr ⟨hz.1, decide_eq_true (show r (x :: rem I [z]) = r (rem I [z]) from q)⟩)
      by_cases hzl : z ∈ L
      · refine Cl.of_mem R (mem_rem.mpr ⟨hzl, fun q => ?_⟩)
        have : z = x := by simpa using q
        exact hxi (this ▸ hz.1)
      · exact h1 z hz.1 hzl (Ex.of R hI hz2)
    have c3 := Cl.trans R c2 c1
    -- but L is free
    have e1 : r (x :: rem L [x]) = r (rem L [x]) := c3
    have e2 : r L ≤ r (x :: rem L [x]) := R.mono fun z hz => by
      by_cases e : z = x
      · exact List.mem_cons.mpr (Or.inl e)
      · exact List.mem_cons.mpr (Or.inr (mem_rem.mpr ⟨hz, by simpa using e⟩))
    have e3 := R.le_len (rem L [x])
    have e4 : r L = L.length := hL
    omega
  · have hf : Ind r (x :: I) := hI.cons R hc
    obtain ⟨y, hy, hyn, hyi⟩ := hLx.aug R hI (by omega)
    refine ⟨y, hy, fun q => hyn (mem_rem.mpr ⟨q, fun w => ?_⟩), Ex.of_free R hf, hyi⟩
    have : y = x := by simpa using w
    exact hxi (this ▸ hy)
end
end Bf
set_option Elab.async false
set_option maxHeartbeats 4000000
set_option linter.all false
/-! texts in order; lots told sorted -/
namespace Bs
open PySem PySem.Spec PyProof.Rows
def slt (a b : Str) : Prop := a.cps.toList < b.cps.toList
instance (a b : Str) : Decidable (slt a b) := by unfold slt; infer_instance
theorem cps_inj {a b : Str} (h : a.cps.toList = b.cps.toList) : a = b := by
  cases a; cases b
  simp only [Str.mk.injEq]
  exact Array.toList_inj.mp h
theorem slt_irrefl (a : Str) : ¬ slt a a := List.lt_irrefl _
theorem slt_trans {a b c : Str} (h : slt a b) (h2 : slt b c) : slt a c := List.lt_trans h h2
theorem slt_tri (a b : Str) : slt a b ∨ a = b ∨ slt b a := by
  by_cases h : slt a b
  · exact Or.inl h
  · by_cases h2 : slt b a
    · exact Or.inr (Or.inr h2)
    · exact Or.inr (Or.inl (cps_inj (List.le_antisymm (List.not_lt.mp h2) (List.not_lt.mp h))))
theorem slt_asymm {a b : Str} (h : slt a b) : ¬ slt b a := fun q => slt_irrefl a (slt_trans h q)
/-- told sorted: strictly rising -/
def SS (l : List Str) : Prop := l.Pairwise slt
def ins (x : Str) : List Str → List Str
  | [] => [x]
  | y :: r => if slt y x then y :: ins x r else x :: y :: r
def srt : List Str → List Str
  | [] => []
  | x :: r => ins x (srt r)
theorem ins_perm (x : Str) : ∀ l : List Str, (ins x l).Perm (x :: l)
  | [] => List.Perm.refl _
  | y :: r => by
    unfold ins
    split
    · exact (List.Perm.cons y (ins_perm x r)).trans (List.Perm.swap x y r)
    · exact List.Perm.refl _
theorem srt_perm : ∀ l : List Str, (srt l).Perm l
  | [] => List.Perm.refl _
  | x :: r => (ins_perm x (srt r)).trans (List.Perm.cons x (srt_perm r))
def Up (l : List Str) : Prop := l.Pairwise fun a b => ¬ slt b a
theorem ins_up (x : Str) : ∀ l : List Str, Up l → Up (ins x l)
  | [], _ => List.pairwise_singleton _ _
  | y :: r, h => by
    unfold ins
    have h' := List.pairwise_cons.mp h
    split
    · rename_i hy
      refine List.pairwise_cons.mpr ⟨fun z hz => ?_, ins_up x r h'.2⟩
      rcases List.mem_cons.mp ((ins_perm x r).mem_iff.mp hz) with e | e
      · exact e ▸ slt_asymm hy
      · exact h'.1 z e
    · rename_i hy
      refine List.pairwise_cons.mpr ⟨fun z hz => ?_, h⟩
      rcases List.mem_cons.mp hz with e | e
      · exact e ▸ hy
      · intro q
        have := h'.1 z e
        rcases slt_tri x y with a | a | a
        · exact this (slt_trans q a)
        · exact this (a ▸ q)
        · exact hy a
theorem srt_up : ∀ l : List Str, Up (srt l)
  | [] => List.Pairwise.nil
  | x :: r => ins_up x _ (srt_up r)
theorem up_unique : ∀ {a b : List Str}, a.Perm b → Up a → Up b → a = b
  | [], b, p, _, _ => by rw [List.nil_perm.mp p]
  | x :: a, [], p, _, _ => by exact absurd p.length_eq (by simp)
  | x :: a, y :: b, p, ha, hb => by
    have ha' := List.pairwise_cons.mp ha
    have hb' := List.pairwise_cons.mp hb
    have e : x = y := by
      have hx : x ∈ y :: b := p.mem_iff.mp List.mem_cons_self
      have hy : y ∈ x :: a := p.mem_iff.mpr List.mem_cons_self
      rcases List.mem_cons.mp hx with q | q
      · exact q
      · rcases List.mem_cons.mp hy with q' | q'
        · exact q'.symm
        · rcases slt_tri x y with z | z | z
          · exact absurd z (hb'.1 x q)
          · exact z
          · exact absurd z (ha'.1 y q')
    subst e
    rw [up_unique ((List.perm_cons x).mp p) ha'.2 hb'.2]
theorem SS.up {l : List Str} (h : SS l) : Up l := h.imp fun q => slt_asymm q
theorem SS.nodup {l : List Str} (h : SS l) : l.Nodup := by
  refine List.Pairwise.imp (R := slt) ?_ h
  intro a b q e
  exact slt_irrefl b (e ▸ q)
theorem up_ss : ∀ {l : List Str}, Up l → l.Nodup → SS l
  | [], _, _ => List.Pairwise.nil
  | x :: r, h, n => by
    have h' := List.pairwise_cons.mp h
    have n' := List.nodup_cons.mp n
    refine List.pairwise_cons.mpr ⟨fun z hz => ?_, up_ss h'.2 n'.2⟩
    rcases slt_tri x z with q | q | q
    · exact q
    · exact absurd (q ▸ hz) n'.1
    · exact absurd q (h'.1 z hz)
theorem srt_ss {l : List Str} (h : l.Nodup) : SS (srt l) := up_ss (srt_up l) ((srt_perm l).nodup_iff.mpr h)
theorem mem_srt {l : List Str} {x : Str} : x ∈ srt l ↔ x ∈ l := (srt_perm l).mem_iff
theorem srt_len (l : List Str) : (srt l).length = l.length := (srt_perm l).length_eq
theorem ss_ext {a b : List Str} (ha : SS a) (hb : SS b) (h : ∀ x, x ∈ a ↔ x ∈ b) : a = b :=
  up_unique ((List.perm_ext_iff_of_nodup ha.nodup hb.nodup).mpr h) ha.up hb.up
theorem srt_of_ss {l : List Str} (h : SS l) : srt l = l := up_unique (srt_perm l) (srt_up l) h.up
theorem SS.filter {l : List Str} (h : SS l) (p : Str → Bool) : SS (l.filter p) := List.Pairwise.filter p h
theorem ltCps_iff (a b : List Nat) : ltCps a b = true ↔ a < b := by
  rw [ltCps_eq, decide_eq_true_iff]
theorem rising_up : ∀ (l : List Str) (p : Str), risingS p l = true → Up (p :: l)
  | [], p, _ => List.pairwise_singleton _ _
  | x :: r, p, h => by
    have h2 : (!ltCps x.cps.toList p.cps.toList && risingS x r) = true := h
    rw [Bool.and_eq_true] at h2
    have ih := rising_up r x h2.2
    have hx : ¬ slt x p := fun q => by
      have := (ltCps_iff _ _).mpr q
      rw [this] at h2
      exact absurd h2.1 (by decide)
    refine List.pairwise_cons.mpr ⟨fun z hz => ?_, ih⟩
    rcases List.mem_cons.mp hz with e | e
    · exact e ▸ hx
    · intro q
      have := (List.pairwise_cons.mp ih).1 z e
      rcases slt_tri p x with a | a | a
      · exact this (slt_trans q a)
      · exact this (a ▸ q)
      · exact hx a
theorem sortedS_up : ∀ (l : List Str), sortedS l = true → Up l
  | [], _ => List.Pairwise.nil
  | x :: r, h => rising_up r x h
/-- what sorted gives is srt -/
theorem sorted_is {xs ys : List Str} (p : ys.Perm xs) (h : sortedS ys = true) : ys = srt xs :=
  up_unique (p.trans (srt_perm xs).symm) (sortedS_up ys h) (srt_up xs)

/-! ### lots of the things nm -/
/-- a lot, told sorted -/
def Lot (nm A : List Str) : Prop := A = nm.filter fun x => decide (x ∈ A)
theorem Lot.sub {nm A : List Str} (h : Lot nm A) {x : Str} (hx : x ∈ A) : x ∈ nm := by
  rw [h] at hx
  exact (List.mem_filter.mp hx).1
theorem Lot.ss {nm A : List Str} (n : SS nm) (h : Lot nm A) : SS A := by
  rw [h]; exact n.filter _
theorem lot_of {nm A : List Str} (n : SS nm) (h : SS A) (s : ∀ x, x ∈ A → x ∈ nm) : Lot nm A :=
  ss_ext h (n.filter _) fun x => by
    rw [List.mem_filter, decide_eq_true_iff]
    exact ⟨fun q => ⟨s x q, q⟩, fun q => q.2⟩
theorem lot_nil (nm : List Str) : Lot nm [] := by
  show [] = nm.filter _
  symm
  rw [List.filter_eq_nil_iff]
  intro x _; simp
theorem lot_self {nm : List Str} : Lot nm nm := by
  show nm = nm.filter _
  symm
  rw [List.filter_eq_self]
  intro x hx; simpa using hx
/-- less(lot, gone) -/
abbrev les (A S : List Str) : List Str := A.filter fun x => decide (x ∉ S)
/-- with_thing(lot, thing) -/
abbrev wth (A : List Str) (x : Str) : List Str := srt (A ++ [x])
theorem mem_les {A S : List Str} {x : Str} : x ∈ les A S ↔ x ∈ A ∧ x ∉ S := by simp [les]
theorem mem_wth {A : List Str} {x y : Str} : y ∈ wth A x ↔ y ∈ A ∨ y = x := by rw [wth, mem_srt]; simp
theorem lot_les {nm A : List Str} (n : SS nm) (h : Lot nm A) (S : List Str) : Lot nm (les A S) :=
  lot_of n ((h.ss n).filter _) fun x hx => h.sub (mem_les.mp hx).1
theorem lot_wth {nm A : List Str} (n : SS nm) (h : Lot nm A) {x : Str} (hx : x ∈ nm) (hn : x ∉ A) : Lot nm (wth A x) := by
  refine lot_of n (srt_ss ?_) fun y hy => ?_
  · rw [List.nodup_append]
    exact ⟨(h.ss n).nodup, by simp, fun a ha b hb e => hn (by
      have q : b = x := by simpa using hb
      rw [← q, ← e]
      exact ha)⟩
  · rcases mem_wth.mp hy with q | q
    · exact h.sub q
    · exact q ▸ hx
theorem wth_len (A : List Str) (x : Str) : (wth A x).length = A.length + 1 := by rw [wth, srt_len]; simp
/-- all sorted lots of nm -/
def subs : List Str → List (List Str)
  | [] => [[]]
  | x :: r => subs r ++ (subs r).map (x :: ·)
theorem subs_len : ∀ nm : List Str, (subs nm).length = 2 ^ nm.length
  | [] => rfl
  | x :: r => by
    show (subs r ++ (subs r).map (x :: ·)).length = _
    rw [List.length_append, List.length_map, subs_len r, List.length_cons, Nat.pow_succ]
    omega
theorem filter_subs (p : Str → Bool) : ∀ nm : List Str, nm.filter p ∈ subs nm
  | [] => by simp [subs]
  | x :: r => by
    show (x :: r).filter p ∈ subs r ++ (subs r).map (x :: ·)
    rw [List.mem_append, List.filter_cons]
    split
    · exact Or.inr (List.mem_map.mpr ⟨_, filter_subs p r, rfl⟩)
    · exact Or.inl (filter_subs p r)
end Bs
set_option Elab.async false
set_option linter.all false
set_option maxRecDepth 100000
set_option maxHeartbeats 4000000
/-! built-ins by name; rules of our own -/
namespace Bw
open PySem PySem.Spec PyProof.Rows L2 Bt
theorem bt_isinstance : bootBuiltins "isinstance" = some (.builtin "isinstance") := by decide +kernel
theorem bt_int : bootBuiltins "int" = some (.type "int") := by decide +kernel
theorem bt_bool : bootBuiltins "bool" = some (.type "bool") := by decide +kernel
theorem bt_str : bootBuiltins "str" = some (.type "str") := by decide +kernel
theorem bt_list : bootBuiltins "list" = some (.type "list") := by decide +kernel
theorem bt_tuple : bootBuiltins "tuple" = some (.type "tuple") := by decide +kernel
theorem bt_dict : bootBuiltins "dict" = some (.type "dict") := by decide +kernel
theorem bt_len : bootBuiltins "len" = some (.builtin "len") := by decide +kernel
theorem bt_all : bootBuiltins "all" = some (.builtin "all") := by decide +kernel
theorem bt_any : bootBuiltins "any" = some (.builtin "any") := by decide +kernel
theorem bt_sorted : bootBuiltins "sorted" = some (.builtin "sorted") := by decide +kernel
theorem bt_min : bootBuiltins "min" = some (.builtin "min") := by decide +kernel
theorem bt_max : bootBuiltins "max" = some (.builtin "max") := by decide +kernel
theorem bt_sum : bootBuiltins "sum" = some (.builtin "sum") := by decide +kernel
theorem k_ii {K : PySem.W.Frag} : PySem.W.kitOne K (.type "int") (.type "int") = some true := kit_ty (by decide +kernel)
theorem k_ib {K : PySem.W.Frag} : PySem.W.kitOne K (.type "int") (.type "bool") = some false := kit_ty (by decide +kernel)
theorem k_ss {K : PySem.W.Frag} : PySem.W.kitOne K (.type "str") (.type "str") = some true := kit_ty (by decide +kernel)
theorem k_ll {K : PySem.W.Frag} : PySem.W.kitOne K (.type "list") (.type "list") = some true := kit_ty (by decide +kernel)
theorem k_tt {K : PySem.W.Frag} : PySem.W.kitOne K (.type "tuple") (.type "tuple") = some true := kit_ty (by decide +kernel)
theorem k_dd {K : PySem.W.Frag} : PySem.W.kitOne K (.type "dict") (.type "dict") = some true := kit_ty (by decide +kernel)
/-! ### least and greatest of two texts -/
section
variable {prog : Program} {w : World} {A : Around} {E : Value → Shared → Prop} {s : Shared}
theorem cmpS_lt {P : Nat → Value → Prop} (f : Nat → Str) (hf : ∀ i v, P i v → ∃ t, v = .str (f i) t) : CmpOf prog w A .Lt P (fun i j => decide ((f i).cps.toList < (f j).cps.toList)) := fun i j _ _ s Q E p1 p2 h =>
  match hf i _ p1, hf j _ p2 with
  | ⟨t, e1⟩, ⟨u, e2⟩ => by
    rw [e1, e2]
    show wpAny _ _ (compareOp .Lt (.str (f i) t) (.str (f j) u)) Q E s
    exact PyProof.Rows.lt_str h
theorem cmpS_gt {P : Nat → Value → Prop} (f : Nat → Str) (hf : ∀ i v, P i v → ∃ t, v = .str (f i) t) : CmpOf prog w A .Gt P (fun i j => decide ((f j).cps.toList < (f i).cps.toList)) := fun i j _ _ s Q E p1 p2 h =>
  match hf i _ p1, hf j _ p2 with
  | ⟨t, e1⟩, ⟨u, e2⟩ => by
    rw [e1, e2]
    show wpAny _ _ (compareOp .Gt (.str (f i) t) (.str (f j) u)) Q E s
    exact PySem.P.gt_str h
theorem two_str (a b : Str) (t u : Tok) : ∀ i v, (#[Value.str a t, Value.str b u] : Array Value)[i]? = some v → ∃ k, v = Value.str (if i = 0 then a else b) k
  | 0, v, h => ⟨t, by simpa using h.symm⟩
  | 1, v, h => ⟨u, by simpa using h.symm⟩
  | n + 2, v, h => by simp at h
/-- two values told as a tuple -/
def pairO (a b : Value) : Obj := { cls := .type "tuple", data := .seq #[a, b] }
/-- which of two is kept -/
theorem pair_best {op : CmpOp} {bt : Nat → Nat → Bool} {a b : Value} {Q : Value → Shared → Prop} (hh : A.handled = none) (cm : CmpOf prog w A op (fun i v => (#[a, b] : Array Value)[i]? = some v) bt)
    (h : ∀ g tk, (∀ c o, s.heap.get? c = some o → g.get? c = some o) → Q (if bt 1 0 = true then b else a) { s with heap := g, toks := tk }) : wpAny (model prog w) A (pyIter (.ref s.heap.objs.size))
      (fun it s₂ => ∃ I fp wr n P St bt, it = .ref I ∧ Walks prog w A I fp wr n P St ∧ St 0 s₂.heap ∧ (∀ b ∈ fp, b < s₂.heap.objs.size) ∧ 0 < n ∧ CmpOf prog w A op P bt ∧ ∀ v g tk, P (argBest bt (n - 1)) v → (∀ b o, b ∉ wr → s₂.heap.get? b = some o → g.get? b = some o) → Q v { s₂ with heap := g, toks := tk })
      E { s with heap := s.heap.push (pairO a b) } := by
  have tup : (s.heap.push (pairO a b)).IsTuple s.heap.objs.size #[a, b] := ⟨pairO a b, Heap.get?_push_size _ rfl, rfl, 0, rfl⟩
  have one : (s.heap.push (pairO a b)).objs.size = s.heap.objs.size + 1 := Heap.size_push ..
  refine wpAny_pyIter_tuple tup ⟨_, [_, s.heap.objs.size], [_], 2, _, _, bt, rfl, Walks.tuple hh _ s.heap.objs.size (show s.heap.objs.size ≠ (s.heap.push (pairO a b)).objs.size from one ▸ Nat.ne_of_lt (Nat.lt_succ_self _)) #[a, b], ⟨⟨_, Heap.get?_push_size _ rfl, rfl, rfl⟩, tup.push _⟩, fun c m => ?_, Nat.zero_lt_two, cm, fun v g tk p keep => ?_⟩
  · have two : ((s.heap.push (pairO a b)).push { cls := .type "tuple_iterator", data := .fields #[.ref s.heap.objs.size, .int 0 0] }).objs.size = s.heap.objs.size + 2 := by rw [Heap.size_push, one]
    have step : ∀ x : Nat, x < x + 2 := fun x => Nat.lt_add_of_pos_right Nat.zero_lt_two
    refine Nat.lt_of_lt_of_eq ?_ two.symm
    cases m with
    | head => exact Nat.lt_of_le_of_lt (Nat.le_of_eq one) (Nat.lt_succ_self _)
    | tail _ m => exact Nat.lt_of_le_of_lt (Nat.le_of_eq (List.mem_singleton.mp m)) (step _)
  · have fin := h g tk fun c o e => keep c o (fun m => absurd (Heap.lt_size e) (Nat.not_lt.mpr (Nat.le_trans (Nat.le_succ _) (Nat.le_of_eq (one.symm.trans (List.mem_singleton.mp m).symm))))) (Heap.get?_push_of_some _ (Heap.get?_push_of_some _ e))
    have at_ : (#[a, b] : Array Value)[if bt 1 0 = true then 1 else 0]? = some v := p
    cases e : bt 1 0 <;> rw [e] at at_ fin <;> simp at at_ fin <;> rw [← at_] <;> exact fin
end
/-! ### a text many times -/
theorem rep_fold (a : Array Nat) : ∀ (m : Nat) (acc : Array Nat), (List.replicate m a).foldl (· ++ ·) acc = acc ++ (List.replicate m a.toList).flatten.toArray
  | 0, acc => by simp
  | m + 1, acc => by
    rw [List.replicate_succ, List.foldl_cons, rep_fold a m, List.replicate_succ, List.flatten_cons]
    apply Array.toList_inj.mp
    simp
theorem rep_len (l : List Nat) : ∀ m : Nat, (List.replicate m l).flatten.length = m * l.length
  | 0 => by simp
  | m + 1 => by rw [List.replicate_succ, List.flatten_cons, List.length_append, rep_len l m, Nat.succ_mul, Nat.add_comm]
/-! ### list(reversed(xs)): the library's level -/
section
variable {prog : Program} {w : World} {A : Around} {E : Value → Shared → Prop} {s : Shared} {it l S : Addr} {vs : Array Value}
/-- what is drawn out of a reverse iterator over vs -/
abbrev BackAt (vs : Array Value) (i : Nat) (v : Value) : Prop := vs[vs.size - 1 - i]? = some v
/-- a reverse iterator tells its length by a hint that is not asked further -/
theorem hint_rev {Q : Bool → Shared → Prop} (ty : s.TypeIs (.ref it) "list_reverseiterator") (q : Q false s) : wpAny (model prog w) A (Builtin.List.listLengthHint (.ref it)) Q E s := by
  unfold Builtin.List.listLengthHint
  refine wpAny_bind (wpAny_specialOf ty RT.nolen_lri ?_)
  refine wpAny_bind (m := specialOf (Value.ref it) (Str.ofString "__length_hint__")) (wpAny_specialOf ty RT.hint_lri ?_)
  generalize e : ("list_reverseiterator.__length_hint__" : String) = x
  wp_delta
  have sp : splitId x = some ("list_reverseiterator", "__length_hint__") := by rw [← e]; decide +kernel
  rw [sp]
  subst e
  exact wpAny_bind (wpAny_isInstance (b := true) ty (by rw [isSubtype_type]; kernel_rfl) (wpAny_pure q))
/-- a list grows by what a reverse iterator gives -/
theorem grow_rev {R : Result → Shared → Prop} (hh : A.handled = none) (hit : s.heap.IsRevIter it l ((vs.size : Int) - 1)) (hl : s.heap.IsList l vs) (apart : l ≠ it ∧ S ≠ it ∧ S ≠ l) (res : Value) {c : Nat} (hS : s.heap.get? S = some { cls := .type "list", data := .seq #[] c }) (small : vs.size ≤ sizeLine)
    (fin : ∀ g tk acc k, (∀ b o, b ≠ S → b ≠ it → s.heap.get? b = some o → g.get? b = some o) → g.get? S = some { cls := .type "list", dict := none, data := .seq acc k, slots := #[] } → ItemsOf (BackAt vs) acc vs.size → R (.ok (.ret res)) { s with heap := g, toks := tk }) :
    wpAny (model prog w) A.in1 (Builtin.List.listExtendWith (.ref S) (.ref it) res) (GQ.FinOf prog w A R) (fun e s' => R (.error e) s') s := by
  obtain ⟨n1, n2, n3⟩ := apart
  have ty : s.TypeIs (.ref it) "list_reverseiterator" := hit.typeIs
  have out : S ∉ [it, l] := fun m => by
    rcases List.mem_cons.mp m with m | m
    · exact n2 m
    · exact n3 (List.mem_singleton.mp m)
  have walk := (Walks.listRev (prog := prog) (w := w) (A := A.in1) hh it l n1 vs).toS
  unfold Builtin.List.listExtendWith
  refine wpAny_bind (wpAny_typeOf ty ?_)
  rw [if_neg (by rw [show Builtin.List.listSameRef (.ref S) (.ref it) = false by simp [Builtin.List.listSameRef, n2]]; decide)]
  refine wpAny_bind (wpAny_pyIter_revIter hit (wpAny_bind (wpAny_holding (hint_rev ty ?_))))
  rw [if_neg (by decide)]
  refine wpAny_pure ⟨plainId_quiet PySem.F.plain_extend_loop _, codeAny_extend_loopS walk small _ out _ vs.size 0 _ _ _ rfl (Nat.zero_le _) ⟨Nat.zero_le _, by rw [Int.natCast_zero, Int.sub_zero]; exact hit, hl⟩ hS (ItemsOf.nil _) fun s' acc k mv at_ got => ?_⟩
  rw [Moved.eq_with mv]
  exact fin s'.heap s'.toks acc k (fun b o b1 b2 e => mv.heap b o (fun m => (List.mem_cons.mp m).elim b1 fun m => b2 (List.mem_singleton.mp m)) e) at_ got
/-- list(it) -/
theorem call_list_rev {Q : Value → Shared → Prop} (hh : A.handled = none) (hit : s.heap.IsRevIter it l ((vs.size : Int) - 1)) (hl : s.heap.IsList l vs) (hne : l ≠ it) (small : vs.size ≤ sizeLine)
    (fin : ∀ g tk acc k, (∀ b o, b ≠ it → s.heap.get? b = some o → g.get? b = some o) → g.get? s.heap.objs.size = some { cls := .type "list", dict := none, data := .seq acc k, slots := #[] } → ItemsOf (BackAt vs) acc vs.size → Q (.ref s.heap.objs.size) { s with heap := g, toks := tk }) :
    wpAny (model prog w) A (call (.type "list") [.ref it]) Q E s := by
  have i1 : it < s.heap.objs.size := let ⟨_, e, _⟩ := hit; Heap.lt_size e
  have i2 : l < s.heap.objs.size := let ⟨_, e, _⟩ := id hl; Heap.lt_size e
  let L0 : Obj := { cls := .type "list", data := .seq #[] }
  refine callType_codes (Q₁ := fun v s₁ => v = .ref s.heap.objs.size ∧ s₁ = { s with heap := s.heap.push L0 }) PySem.F.called_list (PySem.F.typeCall_list_1 _) PySem.F.entry_list_init (code_list_new _ ⟨rfl, rfl⟩) fun v s₁ z => ?_
  obtain ⟨z1, z2⟩ := z
  subst z1 z2
  have hS : (s.heap.push L0).get? s.heap.objs.size = some L0 := Heap.get?_push_size _ rfl
  refine ⟨⟨L0, hS, rfl⟩, PySem.F.args_list_init_2 _ _, ?_⟩
  -- the new list is emptied, then grows
  refine wpAny_bind (m := Builtin.List.listItems (.ref s.heap.objs.size)) ?_
  unfold Builtin.List.listItems
  refine wpAny_bind (wpAny_seqItems hS rfl (wpAny_pure ?_))
  refine wpAny_bind (m := updateSeq s.heap.objs.size fun _ => #[]) (wpAny_updateSeq hS rfl (wpAny_bind (wpAny_letGo ?_)))
  have up := Heap.get?_update_self (Obj.mapSeq fun _ => (#[] : Array Value)) hS rfl
  have keep : ∀ b o, b ≠ s.heap.objs.size → s.heap.get? b = some o → ((s.heap.push L0).update s.heap.objs.size (Obj.mapSeq fun _ => (#[] : Array Value))).get? b = some o := fun b o n e => by
    rw [Heap.get?_update_other _ _ n.symm]
    exact Heap.get?_push_of_some _ e
  obtain ⟨ol, e1, e2, m, e3⟩ := hl
  refine grow_rev (s := { s with heap := (s.heap.push L0).update s.heap.objs.size (Obj.mapSeq fun _ => (#[] : Array Value)) }) (A := A.in1) hh (hit.at fun o e => keep it o (Nat.ne_of_lt i1) e) ⟨ol, keep l ol (Nat.ne_of_lt i2) e1, e2, m, e3⟩
    ⟨hne, Nat.ne_of_gt i1, Nat.ne_of_gt i2⟩ .none up small fun g tk acc k old at_ got => ⟨rfl, fin g tk acc k (fun b o n e => ?_) at_ got⟩
  have nb : b ≠ s.heap.objs.size := Nat.ne_of_lt (Heap.lt_size e)
  exact old b o nb n (keep b o nb e)
end
/-! ### the least of many -/
theorem fold_min {α : Type} {lt : α → α → Bool} (tr : ∀ a b c, lt a b = true → lt b c = true → lt a c = true) (ir : ∀ a, lt a a = false) (tot : ∀ a b, lt a b = true ∨ a = b ∨ lt b a = true) :
    ∀ (xs : List α) (x : α), xs.foldl (fun a y => if lt y a = true then y else a) x ∈ x :: xs ∧ ∀ k, k ∈ x :: xs → lt k (xs.foldl (fun a y => if lt y a = true then y else a) x) = false
  | [], x => ⟨List.mem_cons_self, fun k hk => by rw [List.mem_singleton.mp hk]; exact ir x⟩
  | y :: ys, x => by
    obtain ⟨h1, h2⟩ := fold_min tr ir tot ys (if lt y x = true then y else x)
    rw [List.foldl_cons]
    generalize ys.foldl (fun a y => if lt y a = true then y else a) (if lt y x = true then y else x) = m at h1 h2
    by_cases hc : lt y x = true
    · rw [if_pos hc] at h1 h2
      refine ⟨List.mem_cons_of_mem _ h1, fun k hk => ?_⟩
      rcases List.mem_cons.mp hk with e | e
      · subst e
        cases hq : lt k m with
        | false => rfl
        | true =>
          have := h2 y List.mem_cons_self
          rw [tr y k m hc hq] at this; cases this
      · exact h2 k e
    · rw [if_neg hc] at h1 h2
      have hx := h2 x List.mem_cons_self
      refine ⟨?_, fun k hk => ?_⟩
      · rcases List.mem_cons.mp h1 with e | e
        · rw [e]; exact List.mem_cons_self
        · exact List.mem_cons_of_mem _ (List.mem_cons_of_mem _ e)
      · rcases List.mem_cons.mp hk with e | e
        · rw [e]; exact hx
        · rcases List.mem_cons.mp e with e | e
          · subst e
            cases hq : lt k m with
            | false => rfl
            | true =>
              rcases tot x m with q | q | q
              · rw [q] at hx; cases hx
              · rw [q] at hc; exact absurd hq hc
              · exact absurd (tr k m x hq q) hc
          · exact h2 k (List.mem_cons_of_mem _ e)
/-- the order of ((int, int), text) -/
def trLt (p q : (Int × Int) × Str) : Prop := p.1.1 < q.1.1 ∨ (p.1.1 = q.1.1 ∧ (p.1.2 < q.1.2 ∨ (p.1.2 = q.1.2 ∧ p.2.cps.toList < q.2.cps.toList)))
abbrev trB (p q : (Int × Int) × Str) : Bool := PySem.W.DatumOrd.lt p q
theorem trB_iff {p q : (Int × Int) × Str} : trB p q = true ↔ trLt p q := by
  obtain ⟨⟨a, b⟩, c⟩ := p
  obtain ⟨⟨a', b'⟩, c'⟩ := q
  show (if (a, b) = (a', b') then decide (c.cps.toList < c'.cps.toList) else if a = a' then decide (b < b') else decide (a < a')) = true ↔ (a < a' ∨ (a = a' ∧ (b < b' ∨ (b = b' ∧ c.cps.toList < c'.cps.toList))))
  by_cases h1 : a = a'
  · by_cases h2 : b = b'
    · subst h1; subst h2
      rw [if_pos rfl, decide_eq_true_iff]
      constructor
      · intro h; exact .inr ⟨rfl, .inr ⟨rfl, h⟩⟩
      · rintro (h | ⟨_, h | ⟨_, h⟩⟩)
        · omega
        · omega
        · exact h
    · rw [if_neg (fun e => h2 (Prod.mk.inj e).2), if_pos h1, decide_eq_true_iff]
      constructor
      · intro h; exact .inr ⟨h1, .inl h⟩
      · rintro (h | ⟨_, h | ⟨h, _⟩⟩)
        · omega
        · exact h
        · exact absurd h h2
  · rw [if_neg (fun e => h1 (Prod.mk.inj e).1), if_neg h1, decide_eq_true_iff]
    constructor
    · intro h; exact .inl h
    · rintro (h | ⟨h, _⟩)
      · exact h
      · exact absurd h h1
theorem trLt_trans {a b c : (Int × Int) × Str} (h : trLt a b) (k : trLt b c) : trLt a c := by
  unfold trLt at *
  rcases h with h | ⟨h, h2 | ⟨h2, h3⟩⟩
  · rcases k with k | ⟨k, _⟩
    · exact .inl (by omega)
    · exact .inl (by omega)
  · rcases k with k | ⟨k, k2 | ⟨k2, _⟩⟩
    · exact .inl (by omega)
    · exact .inr ⟨by omega, .inl (by omega)⟩
    · exact .inr ⟨by omega, .inl (by omega)⟩
  · rcases k with k | ⟨k, k2 | ⟨k2, k3⟩⟩
    · exact .inl (by omega)
    · exact .inr ⟨by omega, .inl (by omega)⟩
    · exact .inr ⟨by omega, .inr ⟨by omega, List.lt_trans h3 k3⟩⟩
theorem trLt_irrefl (a : (Int × Int) × Str) : ¬ trLt a a := by
  rintro (h | ⟨_, h | ⟨_, h⟩⟩)
  · omega
  · omega
  · exact List.lt_irrefl _ h
theorem trLt_tot (a b : (Int × Int) × Str) : trLt a b ∨ a = b ∨ trLt b a := by
  unfold trLt
  rcases Int.lt_trichotomy a.1.1 b.1.1 with h | h | h
  · exact .inl (.inl h)
  · rcases Int.lt_trichotomy a.1.2 b.1.2 with h2 | h2 | h2
    · exact .inl (.inr ⟨h, .inl h2⟩)
    · rcases Bs.slt_tri a.2 b.2 with h3 | h3 | h3
      · exact .inl (.inr ⟨h, .inr ⟨h2, h3⟩⟩)
      · exact .inr (.inl (Prod.ext (Prod.ext h h2) h3))
      · exact .inr (.inr (.inr ⟨h.symm, .inr ⟨h2.symm, h3⟩⟩))
    · exact .inr (.inr (.inr ⟨h.symm, .inl h2⟩))
  · exact .inr (.inr (.inl h))
theorem minOf_least (x : (Int × Int) × Str) (xs : List ((Int × Int) × Str)) : PySem.W.minOf x xs ∈ x :: xs ∧ ∀ k, k ∈ x :: xs → ¬ trLt k (PySem.W.minOf x xs) := by
  obtain ⟨h1, h2⟩ := fold_min (lt := trB) (fun a b c p q => trB_iff.mpr (trLt_trans (trB_iff.mp p) (trB_iff.mp q))) (fun a => Bool.eq_false_iff.mpr fun h => trLt_irrefl a (trB_iff.mp h))
    (fun a b => (trLt_tot a b).imp trB_iff.mpr fun h => h.imp id trB_iff.mpr) xs x
  refine ⟨h1, fun k hk h => ?_⟩
  have := h2 k hk
  have e : trB k (PySem.W.minOf x xs) = true := trB_iff.mpr h
  exact Bool.noConfusion (e.symm.trans this)
section
variable {X : Cx}
/-- min(s, t), max(s, t) of texts -/
theorem call_min2s (hc : X.calm = true) : CallR X (.builtin "min") (fun xs H Q => ∃ i j : Str, xs = [.str i, .str j] ∧ Q (.str (if j.cps.toList < i.cps.toList then j else i)) H) := by
  rintro pins s σ H xs us Q I r ⟨i, j, rfl, q⟩
  obtain ⟨_, _, rfl, ⟨t, rfl⟩, ⟨u, rfl⟩⟩ := vals2 r
  refine call_min_two (pair_best (A := X.A.in1) (I.ok.hd hc) (cmpS_lt (fun k => if k = 0 then i else j) (two_str i j t u)) fun g tk k => ⟨_, H, I.kept k, ?_, q⟩)
  show RelV _ (if decide (j.cps.toList < i.cps.toList) = true then Value.str j u else Value.str i t)
  by_cases e : j.cps.toList < i.cps.toList
  · rw [if_pos e, if_pos (decide_eq_true e)]; exact ⟨u, rfl⟩
  · rw [if_neg e, if_neg fun z => e (of_decide_eq_true z)]; exact ⟨t, rfl⟩
theorem call_max2s (hc : X.calm = true) : CallR X (.builtin "max") (fun xs H Q => ∃ i j : Str, xs = [.str i, .str j] ∧ Q (.str (if i.cps.toList < j.cps.toList then j else i)) H) := by
  rintro pins s σ H xs us Q I r ⟨i, j, rfl, q⟩
  obtain ⟨_, _, rfl, ⟨t, rfl⟩, ⟨u, rfl⟩⟩ := vals2 r
  refine call_max_two (pair_best (A := X.A.in1) (I.ok.hd hc) (cmpS_gt (fun k => if k = 0 then i else j) (two_str i j t u)) fun g tk k => ⟨_, H, I.kept k, ?_, q⟩)
  show RelV _ (if decide (i.cps.toList < j.cps.toList) = true then Value.str j u else Value.str i t)
  by_cases e : i.cps.toList < j.cps.toList
  · rw [if_pos e, if_pos (decide_eq_true e)]; exact ⟨u, rfl⟩
  · rw [if_neg e, if_neg fun z => e (of_decide_eq_true z)]; exact ⟨t, rfl⟩
/-- s * n -/
theorem op_mul_str : OpR X (binaryOp .Mult) (fun x y H Q => ∃ (z : Str) (n : Int), x = .str z ∧ y = .int n ∧ 1 ≤ n ∧ n ≤ 1000 ∧ z.length ≤ 1000 ∧ Q (.str ⟨(List.replicate n.toNat z.cps.toList).flatten.toArray⟩) H) := by
  rintro pins s σ H x y v u Q I rx ry ⟨z, n, rfl, rfl, n1, n2, zl, q⟩
  obtain ⟨t, rfl⟩ := rx
  obtain ⟨t', rfl⟩ := ry
  have a1 : z.length * n.toNat ≤ 1000 * 1000 := Nat.mul_le_mul zl (by omega)
  refine PySem.P.mul_str (by rw [decide_eq_false (by omega), decide_eq_false (by omega)]; rfl) (fun _ _ => ?_) (fun _ _ => ?_) ?_
  · have h2 : 1000 ≤ (2 ^ 63 - 1) / n := (Int.le_ediv_iff_mul_le (by omega)).mpr (by omega)
    omega
  · unfold Builtin.Str.tooLong
    rw [sizeLine_eq]
    exact decide_eq_false (by omega)
  · rw [if_neg (by omega)]
    by_cases hc : (n == 1 || z.length == 0) = true
    · rw [if_pos hc]
      have e : (⟨(List.replicate n.toNat z.cps.toList).flatten.toArray⟩ : Str) = z := by
        obtain ⟨c⟩ := z
        congr 1
        apply Array.toList_inj.mp
        rcases Bool.or_eq_true_iff.mp hc with h1 | h1
        · have : n = 1 := by simpa using h1
          subst this
          simp
        · have h0 : c.size = 0 := beq_iff_eq.mp h1
          have h2 : c = #[] := Array.eq_empty_of_size_eq_zero h0
          subst h2
          simp
      rw [e] at q
      exact ⟨.str z, H, I, ⟨t, rfl⟩, q⟩
    · rw [if_neg hc]
      have e := rep_fold z.cps n.toNat #[]
      rw [e]
      have e2 : (#[] : Array Nat) ++ (List.replicate n.toNat z.cps.toList).flatten.toArray = (List.replicate n.toNat z.cps.toList).flatten.toArray := by simp
      rw [e2]
      refine ⟨?_, .str _, H, I.tok _, ⟨_, rfl⟩, q⟩
      show (List.replicate n.toNat z.cps.toList).flatten.toArray.size ≤ sizeLine
      have h3 : z.cps.toList.length = z.length := Array.length_toList
      rw [List.size_toArray, rep_len, h3, sizeLine_eq, Nat.mul_comm]
      omega
/-- list(text) -/
theorem call_list_str1 (hc : X.calm = true) : CallR X (.type "list") (fun xs H Q => ∃ z : Str, xs = [.str z] ∧ z.length ≤ 1000 ∧ ∀ p, H p = none → Q (.ref p) (upd H p (.lst (z.cps.toList.map fun c => V.str ⟨#[c]⟩)))) := by
  rintro pins s σ H xs us Q I r ⟨z, rfl, zl, q⟩
  obtain ⟨_, rfl, t, rfl⟩ := vals1 r
  have zs : z.cps.size ≤ sizeLine := Nat.le_trans (show z.cps.size ≤ 1000 from zl) (by rw [sizeLine_eq]; decide)
  refine PySem.call_list_str (I.ok.hd hc) z t (fun h' tk acc' c' hk hS hacc => ?_) zs
  refine ⟨.ref s.heap.objs.size, upd H s.heap.objs.size (.lst (z.cps.toList.map fun c => V.str ⟨#[c]⟩)), I.laid hk (Nat.le_refl _) (show ObjOk X.prog X.w _ _ _ (.lst (z.cps.toList.map fun c => V.str ⟨#[c]⟩)) from ⟨?_, acc'.toList, c', ?_, ?_⟩), rfl, q _ (I.hok.fresh (Nat.le_refl _))⟩
  · rw [List.length_map, Array.length_toList]; exact zs
  · refine vals_of_at (by rw [List.length_map, Array.length_toList, Array.length_toList, hacc.1]) fun j x w h1 h2 => ?_
    obtain ⟨c, u, hc', rfl⟩ := hacc.2 j w (by rw [← Array.getElem?_toList]; exact h2)
    rw [List.getElem?_map, Array.getElem?_toList, hc'] at h1
    cases h1
    exact ⟨u, rfl⟩
  · rw [Array.toArray_toList]; exact hS
/-- the least of a list of ((int, int), text) -/
def tripV (H : Hp) (v : V) (k : (Int × Int) × Str) : Prop := ∃ a b, v = .ref a ∧ H a = some (.tup [.ref b, .str k.2]) ∧ H b = some (.tup [.int k.1.1, .int k.1.2])
def tripLe (a b : (Int × Int) × Str) : Prop := a.1.1 < b.1.1 ∨ (a.1.1 = b.1.1 ∧ (a.1.2 < b.1.2 ∨ (a.1.2 = b.1.2 ∧ ¬ b.2.cps.toList < a.2.cps.toList)))
theorem dp_trip0 {K : PySem.W.Frag} {H : Hp} : ∀ {vs : List V} {ks : List ((Int × Int) × Str)}, Paired (tripV H) vs ks → DpAll K H vs (ks.map PySem.W.Datum.toD)
  | _, _, .nil => .nil
  | _, _, .cons r t => by
    obtain ⟨a, b, rfl, h1, h2⟩ := r
    exact .cons (.tup (SqT.of h1) (.cons (.tup (SqT.of h2) (.cons (.int _) (.cons (.int _) .nil))) (.cons (.str _) .nil))) (dp_trip0 t)
theorem trip_inj {x y : (Int × Int) × Str} (h : (PySem.W.Datum.toD x : PyData) = PySem.W.Datum.toD y) : x = y := by
  obtain ⟨⟨a, b⟩, c⟩ := x
  obtain ⟨⟨a', b'⟩, c'⟩ := y
  have h' : PyData.tuple [.tuple [.int a, .int b], .str c] = PyData.tuple [.tuple [.int a', .int b'], .str c'] := h
  injection h' with h1
  injection h1 with h2 h3
  injection h2 with h2
  injection h2 with h4 h5
  injection h4 with h4
  injection h5 with h5
  injection h5 with h5
  injection h3 with h3
  injection h3 with h3
  rw [h4, h5, h3]
theorem paired_at {α β : Type} {F : α → β → Prop} : ∀ {a : List α} {b : List β}, Paired F a b → ∀ {i : Nat} (h1 : i < a.length) (h2 : i < b.length), F a[i] b[i]
  | _, _, .nil, _, h1, _ => absurd h1 (Nat.not_lt_zero _)
  | _, _, .cons r _, 0, _, _ => r
  | _, _, .cons _ t, i + 1, h1, h2 => paired_at t (i := i) (by simpa using h1) (by simpa using h2)
theorem cr_minP {k : Nat} (hr : Room k X.A) : CallR X (.builtin "min") (fun xs H Q => ∃ (l : Addr) (vs : List V) (ks : List ((Int × Int) × Str)), xs = [.ref l] ∧ H l = some (.lst vs) ∧ Paired (tripV H) vs ks ∧ ks ≠ [] ∧
    ∀ v m, v ∈ vs → m ∈ ks → tripV H v m → (∀ k, k ∈ ks → tripLe m k) → Q v H) := by
  rintro pins s σ H xs us Q I r ⟨l, vs, ks, rfl, hl, pr, hne, q⟩
  rw [Vals.ref1 r]
  cases ks with
  | nil => exact absurd rfl hne
  | cons x xs =>
    obtain ⟨its, rv, pl, hz⟩ := I.list (SqL.of hl)
    have HA : PySem.W.HoldAll s.heap its.toArray.toList (x :: xs) := by
      obtain ⟨as, hr'⟩ := Dp.readsAll I _ _ its (dp_trip0 (K := X.K) pr) rv
      exact ⟨as, by rw [List.toList_toArray]; exact hr'⟩
    have hu : X.A.units + 1 + PySem.W.Datum.depth ((Int × Int) × Str) < cLine := by
      have h1 := hr.un
      have h2 : PySem.W.Datum.depth ((Int × Int) × Str) = 2 := rfl
      omega
    refine PySem.W.min_list_datum hr.hd pl.isList HA hu fun i v h' tk hi hv hk => ?_
    have hi2 : its[i]? = some v := by simpa using hi
    have hil : i < its.length := (List.getElem?_eq_some_iff.mp hi2).1
    have hvl : i < vs.length := by rw [rv.length]; exact hil
    obtain ⟨v', hv', rv'⟩ := rv.get (List.getElem?_eq_getElem hvl)
    rw [hi2] at hv'
    cases hv'
    have hkl : i < (x :: xs).length := by rw [← pr.length]; exact hvl
    obtain ⟨y, hy, hyv⟩ := HA.at (i := i) (v := v) (by simpa using hi2)
    have hyi : y = (x :: xs)[i] := by
      rw [List.getElem?_eq_getElem hkl] at hy
      exact (Option.some.inj hy).symm
    have ey : y = PySem.W.minOf x xs := by
      obtain ⟨as, r1⟩ := hyv.keeps hk
      obtain ⟨bs, r2⟩ := hv
      exact trip_inj (_root_.PySem.Reads.unique r1 _ _ r2).1
    obtain ⟨m1, m2⟩ := minOf_least x xs
    rw [← ey] at m1 m2
    refine ⟨vs[i], H, I.kept hk, rv', q vs[i] y (List.getElem_mem hvl) m1 ?_ fun k hk' => ?_⟩
    · rw [hyi]
      exact paired_at pr hvl hkl
    · have hn := m2 k hk'
      unfold tripLe
      unfold trLt at hn
      rcases Int.lt_trichotomy y.1.1 k.1.1 with a | a | a
      · exact .inl a
      · rcases Int.lt_trichotomy y.1.2 k.1.2 with b | b | b
        · exact .inr ⟨a, .inl b⟩
        · exact .inr ⟨a, .inr ⟨b, fun c => hn (.inr ⟨a.symm, .inr ⟨b.symm, c⟩⟩)⟩⟩
        · exact absurd (.inr ⟨a.symm, .inl b⟩) hn
      · exact absurd (.inl a) hn
/-- .. *d of a dict of names, in a display -/
def tStarD (te : TE) (t : TA) : TA := fun σ H Q => te σ H fun x H1 => ∃ p kvs, x = V.ref p ∧ H1 p = some (.dK kvs) ∧ t σ H1 fun ys H2 => Q ((kvs.map fun kv => kV kv.1) ++ ys) H2
/-- the keys that a walk over a dict has drawn -/
theorem vals_keys {kvs : List (Key × V)} {vs : List (Key × Value)} {acc : Array Value} (rk : KV kvs vs) (got : ItemsOf (fun i v => ∃ k x, vs[i]? = some (k, x) ∧ keyIs k v = true) acc vs.length) : Vals (kvs.map fun kv => kV kv.1) acc.toList := by
  refine vals_of_at (by rw [List.length_map, show acc.toList.length = vs.length from Array.length_toList.trans got.1]; exact Paired.length rk) fun j x u hx hu => ?_
  obtain ⟨k, y, at_, is⟩ := got.2 j u (by simpa using hu)
  obtain ⟨z, hz, _⟩ := KV.at' rk at_
  have e : x = kV k := by
    rw [List.getElem?_map, hz] at hx
    exact (Option.some.inj hx).symm
  rw [e]
  exact keyIs_rel is
theorem pa_starD {e : Expr} {es : List Expr} {p : Pos} {te : TE} {t : TA} (he : PE X e te) (hr : PA X es t) (hs : starEach (.Starred e p :: es) X.env = (true, eval e X.env) :: starEach es X.env := by rfl) (hc : X.calm = true := by rfl) : PA X (.Starred e p :: es) (tStarD te t) where
  run := fun pos pins s σ H Q I h => by
    refine PySem.W.items_star (thn (he.run pins s σ H _ I h) fun v s1 ⟨y, H1, I1, ry, a, kvs, ey, hx, q⟩ => ?_) hs
    cases ey
    cases ry
    obtain ⟨small, low, vs, rk, hd⟩ := (show ObjOk X.prog X.w H1 s1.heap a (.dK kvs) from I1.hok a _ hx)
    obtain ⟨ep, hat⟩ := hd.dictAt
    have small' : vs.length ≤ sizeLine := Paired.length rk ▸ small
    refine wpAny_bind (wpAny_specialOf hd.typeIs PySem.F.slot_dict_iter.lookup (wpAny_pure ⟨rfl, ?_⟩))
    refine PySem.W.kdu_collect (PySem.W.kdl_dict (knd := mixKind X.prog X.w) (kvs := vs) (ep := ep) low) (I1.ok.hd hc) hat small' fun g tk acc keep got => ?_
    exact thn (hr.run pos pins _ σ H1 _ (I1.kept (t' := tk) keep) q) fun ws s3 ⟨ys, H3, I3, r3, q3⟩ => ⟨_, H3, I3, (vals_keys rk got).append r3, q3⟩
/-- list(reversed(xs)) -/
def tListRev (te : TE) : TE := fun σ H Q => te σ H fun v H1 => ∃ (a : Addr) (xs : List V), v = .ref a ∧ H1 a = some (.lst xs) ∧ ∀ q, H1 q = none → Q (.ref q) (upd H1 q (.lst xs.reverse))
theorem pe_listRev {e : Expr} {te : TE} {p p2 pos pos2 : Pos} (hc : X.calm = true) (hg : Gl X "list") (hm : X.mg "list" = none) (hg2 : Gl X "reversed") (hm2 : X.mg "reversed" = none) (he : PE X e te) (n1 : starEach [e] X.env = (false, eval e X.env) :: starEach [] X.env := by rfl)
    (n2 : starEach [.Call (.Name "reversed" p2) [e] [] pos2] X.env = (false, eval (.Call (.Name "reversed" p2) [e] [] pos2) X.env) :: starEach [] X.env := by rfl) : PE X (.Call (.Name "list" p) [.Call (.Name "reversed" p2) [e] [] pos2] [] pos) (tListRev te) where
  run := fun pins s σ H Q I h => by
    refine Call_ (ld_blt I hg hm bt_list (PyProof.Rows.callWith_type1 (args_cons (Call_ (ld_blt I hg2 hm2 PyProof.Rows.boot_reversed (PyProof.Rows.callWith_type1 (args_cons (thn (he.run pins s σ H _ I h) fun v s1 ⟨x, H1, I1, rx, a, xs, ex, ha, q⟩ => args_nil ?_) n1) n1 rfl))) n2) n2 rfl))
    cases ex
    cases rx
    obtain ⟨its, rv, pl, small⟩ := I1.list (SqL.of ha)
    have size : its.toArray.size = xs.length := by rw [List.size_toArray]; exact rv.length.symm
    have apart : a ≠ s1.heap.objs.size := let ⟨_, z, _⟩ := pl.isList; Nat.ne_of_lt (Heap.lt_size z)
    refine call_reversed_list pl.isList (args_nil (call_list_rev (s := { s1 with heap := s1.heap.push (revObj a ((its.toArray.size : Int) - 1)) }) (I1.ok.hd hc) ⟨_, Heap.get?_push_size _ rfl, rfl, rfl⟩ (pl.isList.push _) apart (size ▸ small) fun g tk acc k keep at_ got => ?_))
    have grown : s1.heap.objs.size ≤ (s1.heap.push (revObj a ((its.toArray.size : Int) - 1))).objs.size := by rw [Heap.size_push]; exact Nat.le_succ _
    refine ⟨.ref (s1.heap.push (revObj a ((its.toArray.size : Int) - 1))).objs.size, _, I1.laid (o := .lst xs.reverse) (t' := tk) (fun b o z => keep b o (Nat.ne_of_lt (Heap.lt_size z)) (Heap.get?_push_of_some _ z)) grown ⟨by rw [List.length_reverse]; exact small, acc.toList, k, RT.vals_rev rv got, ?_⟩, rfl, q _ (I1.hok.fresh grown)⟩
    rw [Array.toArray_toList]
    exact at_
/-- d = {k: v for ..} where d is a plain name -/
theorem sw_trueD {kx vx : Expr} {gs : List Comprehension} {scope : Scope} {pos py : Pos} {y : Str} {l : Nat} {env : Env} (hk : env.scope.kind = .function) (hy : env.scope.names.lookup y = some .local) (hl : (py.line == pos.line) = true)
    (ha : (scope.names.any fun (n, k) => n == y && (k == .local || k == .cell)) = false) : swapsWith (.DictComp kx vx gs scope pos) (some (.Name y py)) l env = pure true := by
  have a1 : env.kindOf y = some .local := hy
  have a2 : env.blockKind = .function := by unfold Env.blockKind; rw [hk]; rfl
  unfold swapsWith
  simp only [a2, a1, ha, Expr.pos, hl]
  rfl
/-- in each block of a comprehension -/
abbrev InB (X : Cx) (scope : Scope) (F : Cx → Prop) : Prop := ∀ (s : Shared) (H : Hp) (C : Addr) (cl : List (Str × Addr)) (fp : List Addr), F (X.blk s H scope (compEnvC scope cl C X.env) fp)
theorem ps_setDc {i : Nat} {y : Str} {py : Pos} {kx vx tg iter : Expr} {ifs : List Expr} {scope : Scope} {own : List (Str × Nat)} {pos spos : Pos} {wi : TI} {g : TG} {tt : TT} {tk tv : TE} (hc : X.calm = true) (hN : X.N.Nodup) (hy : X.N[i]? = some y) (loc : X.env.scope.names.lookup y = some .local)
    (sw : swapsWith (.DictComp kx vx [⟨tg, iter, ifs, 0⟩] scope pos) (some (.Name y py)) spos.line X.env = pure true) (hi : PI X tg iter wi) (ok : BlkOk X.N X.env.scope scope own) (hg : InB X scope fun Y => PG Y tg g) (ht : InB X scope fun Y => PTs Y ifs tt)
    (hk : InB X scope fun Y => PE Y kx tk) (hv : InB X scope fun Y => PE Y vx tv) (plain : ∀ x, foldedSetIterable iter X.env x = pure x := by intro _; rfl) : PS X (.Assign [.Name y py] (.DictComp kx vx [⟨tg, iter, ifs, 0⟩] scope pos) spos) (tAsg (tDc wi g tt tk tv (own.map (·.2))) (gName i)) where
  run := fun pins s σ H D I h => by
    rw [exec_Assign_Name_used y py _ spos sw]
    have asked : tDc wi g tt tk tv (own.map (·.2)) σ H (fun x H1 => gName i x σ H1 D.nx) := h
    refine wpAny_bind (wpAny_standAt (wpAny_bind (wpAny_bind (m := comprehension (.DictComp kx vx [⟨tg, iter, ifs, 0⟩] scope pos) scope X.env (firstIterPos [⟨tg, iter, ifs, 0⟩] pos) newDict false (eval iter X.env) (some (assign (.Name y py) X.env)))
      (thn (dc_core (Qf := fun _ s' => SP X pins D .next s') hc hN I hi ok hg ht hk hv plain asked fun L C s1 m H1 I1 q fresh fp => ?_) fun _ s1 done => wpAny_pure (wpAny_pure done)))))
    obtain ⟨c0, c1, c2, c3, c4, c5⟩ := fp
    refine wpAny_assign_Name (store_ok2 (v := V.ref L) I1 hN hy (.inl loc) rfl (fun s2 I2 ⟨b, same, at_⟩ => ?_) (.inr loc))
    have away : C ≠ b := at_.elim (fun z => z ▸ c1) fun z e => c4 y b z e.symm
    exact ⟨m, fresh.sameBut same away, fun g keep => ⟨_, H1, I2.turned (t' := s2.toks) (fun b o n e => (keep.2 b n).trans e) c0 c1 c3 c4 c5, q⟩⟩
end
end Bw
set_option Elab.async false
set_option linter.all false
set_option maxRecDepth 100000
set_option maxHeartbeats 4000000
/-! the defs of common.py -/
namespace Bw
open PySem PySem.Spec PyProof.Rows L2 Bt Bs
section
variable {P : Program} {w : World} {K : PySem.W.Frag} {mg : Str → Option Value} {base : Heap}

/-! ### is_integer -/
def spIsInteger : Sp := fun vs H Q _ => ∃ n : Int, vs = [.int n] ∧ Q (.bl true) H
abbrev N_is_integer : List Str := ["thing"]
theorem sc_is_integer : FnScope N_is_integer ["thing"] (defScope s_is_integer) := ⟨rfl, rfl, rfl, by decide +kernel, rfl, by decide +kernel, by decide +kernel⟩
theorem c_is_integer (T : Txt K mg) : Call P w K mg base 1 "is_integer" ["thing"] spIsInteger := by
  refine mkCall T.d_is_integer sc_is_integer (fun _ _ _ _ _ _ us hl => match us, hl with | [_], _ => rfl) (fun vs H Q E h => ?_) (fun cdv A outer s H vs Q E hr h => ?_)
  · obtain ⟨n, rfl, _⟩ := h; rfl
  · obtain ⟨n, rfl, q⟩ := h
    refine ⟨_, (pss_one (ps_ret (pe_and (pe_callB call_isi (by rfl) T.f_isinstance bt_isinstance (pa_cons (pv 0) (pa_cons (pe_bltn (v := .ty "int") (by rfl) T.f_int bt_int rfl) pa_nil))) (pe_one (pe_not (pe_callB call_isi (by rfl) T.f_isinstance bt_isinstance (pa_cons (pv 0) (pa_cons (pe_bltn (v := .ty "bool") (by rfl) T.f_bool bt_bool rfl) pa_nil)))))))), ?_⟩
    refine ⟨_, rfl, _, _, _, _, _, rfl, .ty _, .base (.int n), k_ii, true, rfl, iteT ?_⟩
    exact ⟨_, rfl, _, _, _, _, _, rfl, .ty _, .base (.int n), k_ib, false, rfl, q⟩

/-! ### is_name -/
/-- a name: 1 to 8 letters from a to z -/
def IsName (z : Str) : Prop := 1 ≤ z.cps.toList.length ∧ z.cps.toList.length ≤ 8 ∧ ∀ c, c ∈ z.cps.toList → c ∈ ("abcdefghijklmnopqrstuvwxyz" : Str).cps.toList
def spIsName : Sp := fun vs H Q _ => ∃ (R : Reg) (z : Str), vs = [.str z] ∧ WInv R H ∧ IsName z ∧ ∀ H', Kp R H H' → Q (.bl true) H'
abbrev N_is_name : List Str := ["thing", "letter"]
theorem sc_is_name : FnScope N_is_name ["thing"] (defScope s_is_name) := ⟨rfl, rfl, rfl, by decide +kernel, rfl, by decide +kernel, by decide +kernel⟩
theorem c_is_name (T : Txt K mg) : Call P w K mg base 1 "is_name" ["thing"] spIsName := by
  obtain ⟨t8, hm_MOST_LETTERS⟩ := T.i_MOST_LETTERS
  obtain ⟨tl, hm_LETTERS⟩ := T.s_LETTERS
  refine mkCall T.d_is_name sc_is_name (fun _ _ _ _ _ _ us hl => match us, hl with | [_], _ => rfl) (fun vs H Q E h => ?_) (fun cdv A outer s H vs Q E hr h => ?_)
  · obtain ⟨R, z, rfl, _⟩ := h; rfl
  · obtain ⟨R, z, rfl, wi, ⟨h1, h8, hl⟩, q⟩ := h
    have el : z.length = z.cps.toList.length := by show z.cps.size = _; rw [Array.length_toList]
    refine ⟨_, (pss_cons (ps_if (PW.pt (pw_or (pt_not (pt_val (pe_callB call_isi (by rfl) T.f_isinstance bt_isinstance (pa_cons (pv 0) (pa_cons (pe_bltn (v := .ty "str") (by rfl) T.f_str bt_str rfl) pa_nil))))) (pw_or1 (pt_not (pt_chain op_le op_le pe_int (pe_callB call_len_str (by rfl) T.f_len bt_len (pa_cons (pv 0) pa_nil)) (pe_glob (v := .int 8) (by rfl) hm_MOST_LETTERS ⟨_, rfl⟩)))))) (pss_one (ps_ret pe_bl)) pss_nil)
      (pss_one (ps_ret (pe_callB (cr_all rfl) (by rfl) T.f_all bt_all (pa_cons (pe_lc (own := [("letter", 1)]) (by rfl) sc_is_name.nd (pi_str (pv 0)) (blkOk_by (own := [("letter", 1)]) (N := N_is_name) (sc := defScope s_is_name) (by decide +kernel)) (fun _ _ _ _ _ => (pg_name (i := 1) sc_is_name.nd rfl (by first | exact Or.inl rfl | exact Or.inr rfl))) (fun _ _ _ _ _ => pts_nil) (fun _ _ _ _ _ => (pe_cmpR op_in_sign (pv 1) (pe_glob (v := .str "abcdefghijklmnopqrstuvwxyz") (by rfl) hm_LETTERS ⟨_, rfl⟩) (by rfl)))) pa_nil))))), ?_⟩
    refine ⟨_, rfl, _, _, _, _, _, rfl, .ty _, .base (.str z), k_ss, true, rfl, iteF ?_⟩
    refine ⟨_, rfl, _, rfl, Nat.le_trans (by rw [el]; exact h8) (by decide), _, _, rfl, rfl, true, dT (by rw [el]; omega), iteT ⟨_, _, rfl, rfl, true, dT (by rw [el]; omega), iteF ?_⟩⟩
    refine ⟨_, rfl, _, rfl, fun D hD => ?_⟩
    refine lcA hD src_str wi (Nat.le_trans h8 (by decide)) (fun c => .bl (decide (c ∈ ("abcdefghijklmnopqrstuvwxyz" : Str).cps.toList))) (fun _ => rfl) (fun c hc H1 k Q' q' => ⟨_, rfl, c, _, rfl, rfl, q' H1 (Kp.refl k.w)⟩) fun H1 k e => ?_
    refine ⟨D, z.cps.toList.map fun c => decide (c ∈ ("abcdefghijklmnopqrstuvwxyz" : Str).cps.toList), rfl, SqL.of (by rw [e, List.map_map]; rfl), ?_⟩
    have ha : (z.cps.toList.map fun c => decide (c ∈ ("abcdefghijklmnopqrstuvwxyz" : Str).cps.toList)).all id = true := by
      rw [List.all_map, List.all_eq_true]
      exact fun c hc => decide_eq_true (hl c hc)
    rw [ha]
    exact q H1 k

/-! ### first_wrong -/
/-- nothing is wrong -/
def spFirstWrong : Sp := fun vs H Q _ => ∃ (R : Reg) (a b : Addr) (A B : List Str), vs = [.ref a, .ref b] ∧ WInv R H ∧ H a = some (.lst (A.map V.str)) ∧ H b = some (.tup (B.map V.str)) ∧ A.Nodup ∧ (∀ x, x ∈ A → x ∈ B) ∧ A.length ≤ 1000 ∧ ∀ H', Kp R H H' → Q .non H'
abbrev N_first_wrong : List Str := ["items", "known", "seen", "index", "item"]
theorem sc_first_wrong : FnScope N_first_wrong ["items", "known"] (defScope s_first_wrong) := ⟨rfl, rfl, rfl, by decide +kernel, rfl, by decide +kernel, by decide +kernel⟩
theorem c_first_wrong (T : Txt K mg) : Call P w K mg base 1 "first_wrong" ["items", "known"] spFirstWrong := by
  refine mkCall T.d_first_wrong sc_first_wrong (fun _ _ _ _ _ _ us hl => match us, hl with | [_, _], _ => rfl) (fun vs H Q E h => ?_) (fun cdv A outer s H vs Q E hr h => ?_)
  · obtain ⟨R, a, b, A, B, rfl, _⟩ := h; rfl
  · obtain ⟨R, a, b, As, Bs, rfl, wi, ha, hb, nd, sub, hl, q⟩ := h
    have hu := hu_of hr
    refine ⟨_, (pss_cons (ps_set (i := 2) sc_first_wrong.nd rfl (Or.inl rfl) pe_dnewK)
      (pss_cons (ps_for PassesOwn.never rfl (pi_enum (by rfl) T.f_enumerate (pa_cons (pv 0) pa_nil)) (pg_tup (by rfl) (pgs_cons (pg_name (i := 3) sc_first_wrong.nd rfl (by first | exact Or.inl rfl | exact Or.inr rfl)) (pgs_cons (pg_name (i := 4) sc_first_wrong.nd rfl (by first | exact Or.inl rfl | exact Or.inr rfl)) pgs_nil))) (pss_cons (ps_if (PW.pt (pw_or (pt_cmpR op_notIn_seq (pv 4) (pv 1) (by rfl)) (pw_or1 (pt_cmp (pc_din hu (pv 4) (pv 2)))))) (pss_one (ps_ret (pv 3))) pss_nil)
      (pss_one (ps_dput hu (pv 2) (pv 4) pe_bl rfl))))
      (pss_one (ps_ret pe_non)))), ?_⟩
    intro d hd
    refine ⟨_, rfl, a, As.map V.str, rfl, SqL.of ((Kp.upd wi hd).at ha), ?_⟩
    refine forE (G := fun H1 => H1 a = some (.lst (As.map V.str))) (c := V.str) (its := As) (fun H1 g => SqL.of g)
      (fun i σ H1 => ∃ kvs v3 v4, σ = [some (.ref a), some (.ref b), some (.ref d), v3, v4] ∧ Kp R H H1 ∧ H1 d = some (.dK kvs) ∧ kvs.map (·.1) = (As.take i).map Sum.inr)
      (fun i σ H1 ⟨_, _, _, _, k, _⟩ => k.at ha) ⟨[], none, none, rfl, Kp.upd wi hd, upd_same, rfl⟩ ?_ ?_
    · rintro i x σ H1 t hx ⟨kvs, v3, v4, rfl, k, hk, ek⟩ ht
      have hi : i < As.length := (List.getElem?_eq_some_iff.mp hx).1
      have hxA : x ∈ As := List.mem_of_getElem? hx
      have ntd : d ≠ t := ne_of_none hk ht
      have no : valV kvs (Sum.inr x : Key) = none := valV_no (by
        rw [ek]
        intro hm
        obtain ⟨y, hy, e⟩ := List.mem_map.mp hm
        cases e
        have nd' := nd
        rw [← List.take_append_drop i As, List.nodup_append] at nd'
        exact nd'.2.2 _ hy _ (List.mem_of_getElem? (i := 0) (by rw [List.getElem?_drop]; exact hx)) rfl)
      have k2 := k.new ht (o := .tup [.int (i : Nat), .str x])
      have hd2 : (upd H1 t (.tup [.int (i : Nat), .str x])) d = some (.dK kvs) := by rw [upd_ne ntd]; exact hk
      refine ⟨t, _, rfl, SqT.of upd_same, rfl, _, _, rfl, _, _, rfl, rfl, ?_⟩
      refine ⟨_, rfl, _, rfl, b, Bs.map V.str, rfl, .inr (SqT.of (k2.at hb)), rfl, flat_strs _, _, rfl, ?_⟩
      rw [inV_str, decide_eq_true (sub x hxA)]
      refine iteF ⟨_, rfl, _, rfl, d, _, rfl, DGet.k (k := Sum.inr x) hd2, _, rfl, ?_⟩
      rw [no]
      refine iteF ⟨_, rfl, _, rfl, d, _, rfl, DPut.k (k := Sum.inr x) hd2 (small1000 ?_), ?_⟩
      · have := congrArg List.length ek
        rw [List.length_map, List.length_map, List.length_take] at this
        omega
      · refine ⟨_, _, _, rfl, k2.mut hd, upd_same, ?_⟩
        rw [putK_new _ no, List.map_append, ek, take_succ_at hx, List.map_append]
        rfl
    · rintro σ H1 ⟨kvs, v3, v4, rfl, k, _⟩
      exact q H1 k

/-! ### need_things, need_lot, is_lot -/
def spNeedThings : Sp := fun vs H Q _ => ∃ (R : Reg) (a : Addr) (A : List Str), vs = [.ref a, .int 24] ∧ WInv R H ∧ H a = some (.lst (A.map V.str)) ∧ A.Nodup ∧ (∀ x, x ∈ A → IsName x) ∧ A.length ≤ 24 ∧
  ∀ H' p, Kp R H H' → H p = none → H' p = some (.lst ((srt A).map V.str)) → Q (.ref p) H'
abbrev N_need_things : List Str := ["things", "most", "seen", "index", "name"]
theorem sc_need_things : FnScope N_need_things ["things", "most"] (defScope s_need_things) := ⟨rfl, rfl, rfl, by decide +kernel, rfl, by decide +kernel, by decide +kernel⟩
theorem c_need_things (T : Txt K mg) : Call P w K mg base 2 "need_things" ["things", "most"] spNeedThings := by
  refine mkCall T.d_need_things sc_need_things (fun _ _ _ _ _ _ us hl => match us, hl with | [_, _], _ => rfl) (fun vs H Q E h => ?_) (fun cdv A outer s H vs Q E hr h => ?_)
  · obtain ⟨R, a, A, rfl, _⟩ := h; rfl
  · obtain ⟨R, a, As, rfl, wi, ha, nd, hn, hl, q⟩ := h
    have hu := hu_of hr
    refine ⟨_, (pss_cons (ps_if (pt_cmpR op_gt (pe_callB call_len_seq (by rfl) T.f_len bt_len (pa_cons (pv 0) pa_nil)) (pv 1) (nomark _)) (pss_one (ps_never)) pss_nil)
      (pss_cons (ps_set (i := 2) sc_need_things.nd rfl (Or.inl rfl) pe_dnewK)
      (pss_cons (ps_for PassesOwn.never rfl (pi_enum (by rfl) T.f_enumerate (pa_cons (pv 0) pa_nil)) (pg_tup (by rfl) (pgs_cons (pg_name (i := 3) sc_need_things.nd rfl (by first | exact Or.inl rfl | exact Or.inr rfl)) (pgs_cons (pg_name (i := 4) sc_need_things.nd rfl (by first | exact Or.inl rfl | exact Or.inr rfl)) pgs_nil))) (pss_cons (ps_if (PW.pt (pw_or (pt_not (pt_val (pe_f (c_is_name T) hr (pa_cons (pv 4) pa_nil)))) (pw_or1 (pt_cmp (pc_din hu (pv 4) (pv 2)))))) (pss_one (ps_never)) pss_nil)
      (pss_one (ps_dput hu (pv 2) (pv 4) pe_bl rfl))))
      (pss_one (ps_ret (pe_callB cr_sortedS (by rfl) T.f_sorted bt_sorted (pa_cons (pv 0) pa_nil))))))), ?_⟩
    refine ⟨_, rfl, a, _, rfl, .inl (SqL.of ha), _, rfl, _, _, rfl, rfl, false, dF ?_, iteF ?_⟩
    · rw [List.length_map]; omega
    intro d hd
    refine ⟨_, rfl, a, As.map V.str, rfl, SqL.of ((Kp.upd wi hd).at ha), ?_⟩
    refine forE (G := fun H1 => H1 a = some (.lst (As.map V.str))) (c := V.str) (its := As) (fun H1 g => SqL.of g)
      (fun i σ H1 => ∃ kvs v3 v4, σ = [some (.ref a), some (.int 24), some (.ref d), v3, v4] ∧ Kp R H H1 ∧ H1 d = some (.dK kvs) ∧ kvs.map (·.1) = (As.take i).map Sum.inr)
      (fun i σ H1 ⟨_, _, _, _, k, _⟩ => k.at ha) ⟨[], none, none, rfl, Kp.upd wi hd, upd_same, rfl⟩ ?_ ?_
    · rintro i x σ H1 t hx ⟨kvs, v3, v4, rfl, k, hk, ek⟩ ht
      have hi : i < As.length := (List.getElem?_eq_some_iff.mp hx).1
      have hxA : x ∈ As := List.mem_of_getElem? hx
      have ntd : d ≠ t := ne_of_none hk ht
      have no : valV kvs (Sum.inr x : Key) = none := valV_no (by
        rw [ek]
        intro hm
        obtain ⟨y, hy, e⟩ := List.mem_map.mp hm
        cases e
        have nd' := nd
        rw [← List.take_append_drop i As, List.nodup_append] at nd'
        exact nd'.2.2 _ hy _ (List.mem_of_getElem? (i := 0) (by rw [List.getElem?_drop]; exact hx)) rfl)
      have k2 := k.new ht (o := .tup [.int (i : Nat), .str x])
      have hd2 : (upd H1 t (.tup [.int (i : Nat), .str x])) d = some (.dK kvs) := by rw [upd_ne ntd]; exact hk
      refine ⟨t, _, rfl, SqT.of upd_same, rfl, _, _, rfl, _, _, rfl, rfl, ?_⟩
      refine ⟨_, rfl, R, x, rfl, k2.w, hn x hxA, fun H2 k3 => ⟨true, rfl, iteF ?_⟩⟩
      have k4 := k2.trans k3
      refine ⟨_, rfl, _, rfl, d, _, rfl, DGet.k (k := Sum.inr x) (k3.at hd2), _, rfl, ?_⟩
      rw [no]
      refine iteF ⟨_, rfl, _, rfl, d, _, rfl, DPut.k (k := Sum.inr x) (k3.at hd2) (small1000 ?_), ?_⟩
      · have := congrArg List.length ek
        rw [List.length_map, List.length_map, List.length_take] at this
        omega
      · refine ⟨_, _, _, rfl, k4.mut hd, upd_same, ?_⟩
        rw [putK_new _ no, List.map_append, ek, take_succ_at hx, List.map_append]
        rfl
    · rintro σ H1 ⟨kvs, v3, v4, rfl, k, _⟩
      refine ⟨_, rfl, a, As, rfl, SqL.of (k.at ha), by omega, fun ys p hp hs np => ?_⟩
      rw [sorted_is hp hs]
      exact q _ p (k.new np) (k.fr np) upd_same

def spNeedLot : Sp := fun vs H Q _ => ∃ (R : Reg) (a b : Addr) (B A : List Str), vs = [.ref b, .ref a] ∧ WInv R H ∧ H a = some (.lst (A.map V.str)) ∧ H b = some (.tup (B.map V.str)) ∧ A.Nodup ∧ (∀ x, x ∈ A → x ∈ B) ∧ A.length ≤ 60 ∧
  ∀ H' p, Kp R H H' → H p = none → H' p = some (.tup ((srt A).map V.str)) → Q (.ref p) H'
abbrev N_need_lot : List Str := ["known", "lot", "index"]
theorem sc_need_lot : FnScope N_need_lot ["known", "lot"] (defScope s_need_lot) := ⟨rfl, rfl, rfl, by decide +kernel, rfl, by decide +kernel, by decide +kernel⟩
theorem c_need_lot (T : Txt K mg) : Call P w K mg base 2 "need_lot" ["known", "lot"] spNeedLot := by
  refine mkCall T.d_need_lot sc_need_lot (fun _ _ _ _ _ _ us hl => match us, hl with | [_, _], _ => rfl) (fun vs H Q E h => ?_) (fun cdv A outer s H vs Q E hr h => ?_)
  · obtain ⟨R, a, b, B, A, rfl, _⟩ := h; rfl
  · obtain ⟨R, a, b, Bs, As, rfl, wi, ha, hb, nd, sub, hl, q⟩ := h
    refine ⟨_, (pss_cons (ps_set (i := 2) sc_need_lot.nd rfl (Or.inl rfl) (pe_f (c_first_wrong T) hr (pa_cons (pv 1) (pa_cons (pv 0) pa_nil))))
      (pss_cons (ps_if (pt_cmpR op_notN (pv 2) pe_non (nomark _)) (pss_one (ps_never)) pss_nil)
      (pss_one (ps_ret (pe_callTy call_tuple_of (by rfl) T.f_tuple bt_tuple (pa_cons (pe_callB cr_sortedS (by rfl) T.f_sorted bt_sorted (pa_cons (pv 1) pa_nil)) pa_nil)))))), ?_⟩
    refine ⟨_, rfl, _, rfl, R, a, b, As, Bs, rfl, wi, ha, hb, nd, sub, by omega, fun H1 k => ?_⟩
    refine ⟨_, rfl, rfl, _, rfl, iteF ?_⟩
    refine ⟨_, rfl, a, As, rfl, SqL.of (k.at ha), by omega, fun ys p hp hs np => ?_⟩
    rw [sorted_is hp hs]
    have k2 := k.new np (o := .lst ((srt As).map V.str))
    refine ⟨p, _, rfl, .inl ⟨SqL.of upd_same, fun t nt => ?_⟩⟩
    exact q _ t (k2.new nt) (k2.fr nt) upd_same

def spIsLot : Sp := fun vs H Q _ => ∃ (R : Reg) (a b : Addr) (B A : List Str), vs = [.ref b, .ref a] ∧ WInv R H ∧ H a = some (.lst (A.map V.str)) ∧ H b = some (.tup (B.map V.str)) ∧ A.Nodup ∧ (∀ x, x ∈ A → x ∈ B) ∧ A.length ≤ 60 ∧
  ∀ H', Kp R H H' → Q (.bl true) H'
abbrev N_is_lot : List Str := ["known", "thing", "item"]
theorem sc_is_lot : FnScope N_is_lot ["known", "thing"] (defScope s_is_lot) := ⟨rfl, rfl, rfl, by decide +kernel, rfl, by decide +kernel, by decide +kernel⟩
theorem c_is_lot (T : Txt K mg) : Call P w K mg base 2 "is_lot" ["known", "thing"] spIsLot := by
  refine mkCall T.d_is_lot sc_is_lot (fun _ _ _ _ _ _ us hl => match us, hl with | [_, _], _ => rfl) (fun vs H Q E h => ?_) (fun cdv A outer s H vs Q E hr h => ?_)
  · obtain ⟨R, a, b, B, A, rfl, _⟩ := h; rfl
  · obtain ⟨R, a, b, Bs, As, rfl, wi, ha, hb, nd, sub, hl, q⟩ := h
    refine ⟨_, (pss_cons (ps_if (PW.pt (pw_or (pt_not (pt_val (pe_callB call_isi (by rfl) T.f_isinstance bt_isinstance (pa_cons (pv 1) (pa_cons (pe_bltn (v := .ty "list") (by rfl) T.f_list bt_list rfl) pa_nil))))) (pw_or1 (pt_not (pt_val (pe_callB (cr_all rfl) (by rfl) T.f_all bt_all (pa_cons (pe_lc (own := [("item", 2)]) (by rfl) sc_is_lot.nd (pi_list (pv 1)) (blkOk_by (own := [("item", 2)]) (N := N_is_lot) (sc := defScope s_is_lot) (by decide +kernel)) (fun _ _ _ _ _ => (pg_name (i := 2) sc_is_lot.nd rfl (by first | exact Or.inl rfl | exact Or.inr rfl))) (fun _ _ _ _ _ => pts_nil) (fun _ _ _ _ _ => (pe_callB (show CallR _ _ (rIsi K) from call_isi) (by rfl) T.f_isinstance bt_isinstance (pa_cons (pv 2) (pa_cons (pe_bltn (v := .ty "str") (by rfl) T.f_str bt_str rfl) pa_nil))))) pa_nil))))))) (pss_one (ps_ret pe_bl)) pss_nil)
      (pss_one (ps_ret (pe_cmpR op_isN (pe_f (c_first_wrong T) hr (pa_cons (pv 1) (pa_cons (pv 0) pa_nil))) pe_non (nomark _))))), ?_⟩
    refine ⟨_, rfl, _, _, _, _, _, rfl, .ty _, .base (.lst ha), k_ll, true, rfl, iteF ?_⟩
    refine ⟨_, rfl, a, rfl, ⟨_, SqL.of ha⟩, fun D hD => ?_⟩
    refine lcA hD (src_lst (c := V.str) (its := As) ha) wi (by omega) (fun _ => .bl true) (fun _ => rfl) (fun x hx H1 k Q' q' => ⟨_, rfl, _, _, _, _, _, rfl, .ty _, .base (.str x), k_ss, q' H1 (Kp.refl k.w)⟩) fun H1 k e => ?_
    refine ⟨D, As.map fun _ => true, rfl, SqL.of (by rw [e, List.map_map]; rfl), true, congrArg V.bl ?_, iteF ?_⟩
    · rw [List.all_map, List.all_eq_true]; intro _ _; rfl
    refine ⟨_, rfl, _, rfl, R, a, b, As, Bs, rfl, k.w, k.at ha, k.at hb, nd, sub, by omega, fun H2 k2 => ?_⟩
    exact ⟨rfl, q H2 (k.trans k2)⟩

/-! ### need_number -/
def spNeedNumber : Sp := fun vs H Q _ => ∃ n : Int, vs = [.int n] ∧ 0 ≤ n ∧ Q .non H
abbrev N_need_number : List Str := ["number"]
theorem sc_need_number : FnScope N_need_number ["number"] (defScope s_need_number) := ⟨rfl, rfl, rfl, by decide +kernel, rfl, by decide +kernel, by decide +kernel⟩
theorem c_need_number (T : Txt K mg) : Call P w K mg base 2 "need_number" ["number"] spNeedNumber := by
  refine mkCall T.d_need_number sc_need_number (fun _ _ _ _ _ _ us hl => match us, hl with | [_], _ => rfl) (fun vs H Q E h => ?_) (fun cdv A outer s H vs Q E hr h => ?_)
  · obtain ⟨n, rfl, _⟩ := h; rfl
  · obtain ⟨n, rfl, h0, q⟩ := h
    refine ⟨_, (pss_one (ps_if (PW.pt (pw_or (pt_not (pt_val (pe_f (c_is_integer T) hr (pa_cons (pv 0) pa_nil)))) (pw_or1 (pt_cmpR op_lt (pv 0) pe_int (nomark _))))) (pss_one (ps_never)) pss_nil)), ?_⟩
    refine ⟨_, rfl, n, rfl, true, rfl, iteF ⟨_, rfl, _, _, rfl, rfl, false, dF (by omega), iteF q⟩⟩

/-! ### less, with_thing, changes -/
def spLess : Sp := fun vs H Q _ => ∃ (R : Reg) (a b : Addr) (A S : List Str), vs = [.ref a, .ref b] ∧ WInv R H ∧ H a = some (.tup (A.map V.str)) ∧ (H b = some (.tup (S.map V.str)) ∨ H b = some (.lst (S.map V.str))) ∧ A.length ≤ 60 ∧
  ∀ H' p, Kp R H H' → H p = none → H' p = some (.tup ((les A S).map V.str)) → Q (.ref p) H'
abbrev N_less : List Str := ["lot", "gone", "thing"]
theorem sc_less : FnScope N_less ["lot", "gone"] (defScope s_less) := ⟨rfl, rfl, rfl, by decide +kernel, rfl, by decide +kernel, by decide +kernel⟩
theorem c_less (T : Txt K mg) : Call P w K mg base 1 "less" ["lot", "gone"] spLess := by
  refine mkCall T.d_less sc_less (fun _ _ _ _ _ _ us hl => match us, hl with | [_, _], _ => rfl) (fun vs H Q E h => ?_) (fun cdv A outer s H vs Q E hr h => ?_)
  · obtain ⟨R, a, b, A, S, rfl, _⟩ := h; rfl
  · obtain ⟨R, a, b, As, Ss, rfl, wi, ha, hb, hl, q⟩ := h
    refine ⟨_, (pss_one (ps_ret (pe_callTy call_tuple_of (by rfl) T.f_tuple bt_tuple (pa_cons (pe_lc (own := [("thing", 2)]) (by rfl) sc_less.nd (pi_tup (pv 0)) (blkOk_by (own := [("thing", 2)]) (N := N_less) (sc := defScope s_less) (by decide +kernel)) (fun _ _ _ _ _ => (pg_name (i := 2) sc_less.nd rfl (by first | exact Or.inl rfl | exact Or.inr rfl))) (fun _ _ _ _ _ => (pts_one (pt_cmpR (show OpR _ _ (rIn K true) from op_notIn_seq) (pv 2) (pv 1) (by rfl)))) (fun _ _ _ _ _ => (pv 2))) pa_nil)))), ?_⟩
    refine ⟨_, rfl, a, rfl, ⟨_, SqT.of ha⟩, fun D hD => ?_⟩
    refine lcN hD (src_tup (c := V.str) (its := As) ha) wi (by omega) (fun x => decide (x ∉ Ss)) V.str (fun _ => rfl)
      (fun x hx H1 k QT q' => ⟨_, rfl, _, rfl, b, Ss.map V.str, rfl, hb.elim (fun h => .inr (SqT.of (k.at h))) (fun h => .inl (SqL.of (k.at h))), rfl, flat_strs _, _, rfl, by rw [inV_str]; simpa using q' H1 (Kp.refl k.w)⟩)
      (fun x hx hT H1 k Q' q' => ⟨_, rfl, q' H1 (Kp.refl k.w)⟩) fun H1 k e => ?_
    exact ⟨D, _, rfl, .inl ⟨SqL.of e, fun t nt => q _ t (k.new nt) (k.fr nt) upd_same⟩⟩
/-- the same of a list -/
def spLessL : Sp := fun vs H Q _ => ∃ (R : Reg) (a b : Addr) (A S : List Str), vs = [.ref a, .ref b] ∧ WInv R H ∧ H a = some (.lst (A.map V.str)) ∧ (H b = some (.tup (S.map V.str)) ∨ H b = some (.lst (S.map V.str))) ∧ A.length ≤ 60 ∧
  ∀ H' p, Kp R H H' → H p = none → H' p = some (.tup ((les A S).map V.str)) → Q (.ref p) H'
theorem c_lessL (T : Txt K mg) : Call P w K mg base 1 "less" ["lot", "gone"] spLessL := by
  refine mkCall T.d_less sc_less (fun _ _ _ _ _ _ us hl => match us, hl with | [_, _], _ => rfl) (fun vs H Q E h => ?_) (fun cdv A outer s H vs Q E hr h => ?_)
  · obtain ⟨R, a, b, A, S, rfl, _⟩ := h; rfl
  · obtain ⟨R, a, b, As, Ss, rfl, wi, ha, hb, hl, q⟩ := h
    refine ⟨_, (pss_one (ps_ret (pe_callTy call_tuple_of (by rfl) T.f_tuple bt_tuple (pa_cons (pe_lc (own := [("thing", 2)]) (by rfl) sc_less.nd (pi_list (pv 0)) (blkOk_by (own := [("thing", 2)]) (N := N_less) (sc := defScope s_less) (by decide +kernel)) (fun _ _ _ _ _ => (pg_name (i := 2) sc_less.nd rfl (by first | exact Or.inl rfl | exact Or.inr rfl))) (fun _ _ _ _ _ => (pts_one (pt_cmpR (show OpR _ _ (rIn K true) from op_notIn_seq) (pv 2) (pv 1) (by rfl)))) (fun _ _ _ _ _ => (pv 2))) pa_nil)))), ?_⟩
    refine ⟨_, rfl, a, rfl, ⟨_, SqL.of ha⟩, fun D hD => ?_⟩
    refine lcN hD (src_lst (c := V.str) (its := As) ha) wi (by omega) (fun x => decide (x ∉ Ss)) V.str (fun _ => rfl)
      (fun x hx H1 k QT q' => ⟨_, rfl, _, rfl, b, Ss.map V.str, rfl, hb.elim (fun h => .inr (SqT.of (k.at h))) (fun h => .inl (SqL.of (k.at h))), rfl, flat_strs _, _, rfl, by rw [inV_str]; simpa using q' H1 (Kp.refl k.w)⟩)
      (fun x hx hT H1 k Q' q' => ⟨_, rfl, q' H1 (Kp.refl k.w)⟩) fun H1 k e => ?_
    exact ⟨D, _, rfl, .inl ⟨SqL.of e, fun t nt => q _ t (k.new nt) (k.fr nt) upd_same⟩⟩
def spWithThing : Sp := fun vs H Q _ => ∃ (R : Reg) (a : Addr) (A : List Str) (x : Str), vs = [.ref a, .str x] ∧ WInv R H ∧ H a = some (.tup (A.map V.str)) ∧ A.length ≤ 60 ∧
  ∀ H' p, Kp R H H' → H p = none → H' p = some (.tup ((wth A x).map V.str)) → Q (.ref p) H'
abbrev N_with_thing : List Str := ["lot", "thing"]
theorem sc_with_thing : FnScope N_with_thing ["lot", "thing"] (defScope s_with_thing) := ⟨rfl, rfl, rfl, by decide +kernel, rfl, by decide +kernel, by decide +kernel⟩
theorem c_with_thing (T : Txt K mg) : Call P w K mg base 1 "with_thing" ["lot", "thing"] spWithThing := by
  refine mkCall T.d_with_thing sc_with_thing (fun _ _ _ _ _ _ us hl => match us, hl with | [_, _], _ => rfl) (fun vs H Q E h => ?_) (fun cdv A outer s H vs Q E hr h => ?_)
  · obtain ⟨R, a, A, x, rfl, _⟩ := h; rfl
  · obtain ⟨R, a, As, x, rfl, wi, ha, hl, q⟩ := h
    refine ⟨_, (pss_one (ps_ret (pe_callTy call_tuple_of (by rfl) T.f_tuple bt_tuple (pa_cons (pe_callB cr_sortedS (by rfl) T.f_sorted bt_sorted (pa_cons (pe_lst (StX.pa_star (pv 0) (pa_cons (pv 1) pa_nil))) pa_nil)) pa_nil)))), ?_⟩
    refine ⟨_, rfl, a, _, rfl, .inl (SqT.of ha), _, rfl, ?_, fun l nl => ?_⟩
    · rw [List.length_append, List.length_map]
      exact Nat.le_trans (show _ ≤ 60 + 1 from Nat.add_le_add_right hl _) (by decide)
    have k1 := Kp.upd wi nl (o := .lst (As.map V.str ++ [V.str x]))
    refine ⟨l, As ++ [x], rfl, SqL.of (by rw [upd_same, List.map_append]; rfl), by rw [List.length_append, List.length_singleton]; omega, fun ys p hp hs np => ?_⟩
    rw [sorted_is hp hs]
    have k2 := k1.new np (o := .lst ((srt (As ++ [x])).map V.str))
    exact ⟨p, _, rfl, .inl ⟨SqL.of upd_same, fun t nt => q _ t (k2.new nt) (k2.fr nt) upd_same⟩⟩
def spChanges : Sp := fun vs H Q _ => ∃ (R : Reg) (a : Addr) (A : List Str) (y x : Str), vs = [.ref a, .str y, .str x] ∧ WInv R H ∧ H a = some (.tup (A.map V.str)) ∧ A.length ≤ 60 ∧
  ∀ H' p, Kp R H H' → H p = none → H' p = some (.tup ((wth (les A [y]) x).map V.str)) → Q (.ref p) H'
abbrev N_changes : List Str := ["lot", "gone", "thing"]
theorem sc_changes : FnScope N_changes ["lot", "gone", "thing"] (defScope s_changes) := ⟨rfl, rfl, rfl, by decide +kernel, rfl, by decide +kernel, by decide +kernel⟩
theorem c_changes (T : Txt K mg) : Call P w K mg base 2 "changes" ["lot", "gone", "thing"] spChanges := by
  refine mkCall T.d_changes sc_changes (fun _ _ _ _ _ _ us hl => match us, hl with | [_, _, _], _ => rfl) (fun vs H Q E h => ?_) (fun cdv A outer s H vs Q E hr h => ?_)
  · obtain ⟨R, a, A, y, x, rfl, _⟩ := h; rfl
  · obtain ⟨R, a, As, y, x, rfl, wi, ha, hl, q⟩ := h
    refine ⟨_, (pss_one (ps_ret (pe_f (c_with_thing T) hr (pa_cons (pe_f (c_less T) hr (pa_cons (pv 0) (pa_cons (pe_tup (pa_cons (pv 1) pa_nil)) pa_nil))) (pa_cons (pv 2) pa_nil))))), ?_⟩
    refine ⟨_, rfl, _, rfl, by show 1 ≤ sizeLine; decide, fun t nt => ?_⟩
    have k1 := Kp.upd wi nt (o := .tup [V.str y])
    refine ⟨R, a, t, As, [y], rfl, k1.w, k1.at ha, .inl upd_same, hl, fun H2 p k2 np hp => ?_⟩
    refine ⟨_, rfl, R, p, les As [y], x, rfl, k2.w, hp, Nat.le_trans (List.length_filter_le _ _) hl, fun H3 p3 k3 np3 hp3 => ?_⟩
    exact q H3 p3 ((k1.trans k2).trans k3) ((k1.trans k2).fr np3) hp3
end
end Bw
set_option Elab.async false
set_option maxHeartbeats 4000000
set_option linter.all false
/-! what the worlds reckon, as plain functions; dicts that are a function on a list of names -/
namespace Bm
open PySem PySem.Spec PyProof.Rows Bs L2
/-! ### webs -/
/-- one tie joins the pieces of its ends: the higher mark becomes the lower one -/
def mstep (en : Str → Str × Str) (f : Str → Str) (t : Str) : Str → Str :=
  if f (en t).1 = f (en t).2 then f
  else fun p => if f p = (if slt (f (en t).1) (f (en t).2) then f (en t).2 else f (en t).1) then (if slt (f (en t).2) (f (en t).1) then f (en t).2 else f (en t).1) else f p
def marks (en : Str → Str × Str) (A : List Str) : Str → Str := A.foldl (mstep en) id
def webRk (pl : List Str) (en : Str → Str × Str) (A : List Str) : Nat := (pl.filter fun p => decide (marks en A p ≠ p)).length
/-! ### counts -/
/-- some room has too many of the things -/
def over (rooms : List (List Str × Int)) (A : List Str) : Bool := rooms.any fun q => decide (q.2 < ((A.filter fun x => decide (x ∈ q.1)).length : Int))
def cstep (rooms : List (List Str × Int)) (f : List Str) (t : Str) : List Str := if over rooms (f ++ [t]) then f else f ++ [t]
def cntL (rooms : List (List Str × Int)) (A : List Str) : List Str := A.foldl (cstep rooms) []
def cntRk (rooms : List (List Str × Int)) (A : List Str) : Nat := (cntL rooms A).length
/-! ### drawn -/
def drwRk (r : List Str → Nat) (L A : List Str) : Nat := r (A ++ L) - r L
/-! ### dicts -/
def DFn (l : List Str) (g : Str → V) : List (Key × V) := l.map fun p => (Sum.inr p, g p)
theorem dfn_keys (l : List Str) (g : Str → V) : (DFn l g).map (·.1) = l.map Sum.inr := by
  unfold DFn; rw [List.map_map]; rfl
theorem dfn_get {l : List Str} {g : Str → V} {x : Str} (h : x ∈ l) : valV (DFn l g) (Sum.inr x) = some (g x) := by
  induction l with
  | nil => cases h
  | cons y l ih =>
    by_cases e : y = x
    · subst e
      exact valV_pos (p := (Sum.inr y, g y)) rfl
    · rw [show DFn (y :: l) g = (Sum.inr y, g y) :: DFn l g from rfl, valV_neg (p := (Sum.inr y, g y)) (fun q => e (Sum.inr.inj q))]
      exact ih (by
        rcases List.mem_cons.mp h with q | q
        · exact absurd q.symm e
        · exact q)
theorem dfn_no {l : List Str} {g : Str → V} {x : Str} (h : x ∉ l) : valV (DFn l g) (Sum.inr x) = none := by
  refine Bw.valV_no ?_
  rw [dfn_keys]
  intro q
  obtain ⟨y, hy, e⟩ := List.mem_map.mp q
  cases e
  exact h hy
theorem dfn_put {l : List Str} {g : Str → V} {x : Str} {v : V} (h : x ∈ l) : putK (DFn l g) (Sum.inr x) v = DFn l fun p => if p = x then v else g p := by
  have ha : ((DFn l g).any fun kv => decide (kv.1 = Sum.inr x)) = true := by
    rw [valV_any, dfn_get h]; rfl
  unfold putK
  rw [if_pos ha]
  unfold DFn
  rw [List.map_map]
  refine List.map_congr_left fun p _ => ?_
  show (if (Sum.inr p : Key) = Sum.inr x then ((Sum.inr p : Key), v) else (Sum.inr p, g p)) = (Sum.inr p, if p = x then v else g p)
  by_cases e : p = x
  · rw [if_pos e, if_pos (congrArg Sum.inr e)]
  · rw [if_neg e, if_neg fun q => e (Sum.inr.inj q)]
theorem dfn_congr {l : List Str} {g g' : Str → V} (h : ∀ x, x ∈ l → g x = g' x) : DFn l g = DFn l g' :=
  List.map_congr_left fun p hp => by rw [h p hp]
theorem dfn_len (l : List Str) (g : Str → V) : (DFn l g).length = l.length := by unfold DFn; rw [List.length_map]
theorem inr_inj {A B : List Str} (h : A.map (Sum.inr : Str → Key) = B.map Sum.inr) : A = B :=
  List.map_inj_right (fun _ _ e => Sum.inr.inj e) |>.mp h
theorem kV_strs (A : List Str) : (A.map (Sum.inr : Str → Key)).map kV = A.map V.str := by rw [List.map_map]; rfl
/-- a store keeps the keys apart -/
theorem nd_put {κ : Type} [DecidableEq κ] {kvs : List (κ × V)} (n : (kvs.map (·.1)).Nodup) (k : κ) (v : V) : ((putK kvs k v).map (·.1)).Nodup := by
  unfold putK
  split
  · have : (kvs.map fun kv => if kv.1 = k then (kv.1, v) else kv).map (·.1) = kvs.map (·.1) := by
      rw [List.map_map]
      refine List.map_congr_left fun p _ => ?_
      show (if p.1 = k then (p.1, v) else p).1 = p.1
      split <;> rfl
    rw [this]; exact n
  · rename_i h
    rw [List.map_append, List.nodup_append]
    refine ⟨n, by simp, fun a ha b hb e => ?_⟩
    have hb' : b = k := by simpa using hb
    subst hb'
    subst e
    obtain ⟨p, hp, rfl⟩ := List.mem_map.mp ha
    exact h (List.any_eq_true.mpr ⟨p, hp, decide_eq_true rfl⟩)
end Bm
set_option Elab.async false
set_option linter.all false
set_option maxRecDepth 100000
set_option maxHeartbeats 4000000
/-! worlds and families: what stands, and what they reckon -/
namespace Bw
open PySem PySem.Spec PyProof.Rows L2 Bt Bs Bm
/-! ### what stands -/
structure WebS (K : PySem.W.Frag) (H : Hp) (q : Addr) (pl : List Str) (en : Str → Str × Str) (nm : List Str) : Prop where
  ob : ∃ dx kn d kvs, H q = some (.ins (He.ga K "Web") dx [("known", .ref kn), ("ending", .ref d)]) ∧ H kn = some (.tup (pl.map V.str)) ∧ H d = some (.dK kvs) ∧
    ∀ t, t ∈ nm → ∃ e, valV kvs (Sum.inr t) = some (.ref e) ∧ H e = some (.tup [.str (en t).1, .str (en t).2])
  nd : pl.Nodup
  lp : pl.length ≤ 16
  ei : ∀ t, t ∈ nm → (en t).1 ∈ pl ∧ (en t).2 ∈ pl
/-- a room as a value -/
def roomV (H : Hp) (v : V) (q : List Str × Int) : Prop := ∃ t a, v = .ref t ∧ H t = some (.tup [.ref a, .int q.2]) ∧ H a = some (.tup (q.1.map V.str))
structure CntS (K : PySem.W.Frag) (H : Hp) (c : Addr) (kn : List Str) (rooms : List (List Str × Int)) : Prop where
  ob : ∃ dx k l vs, H c = some (.ins (He.ga K "Counts") dx [("known", .ref k), ("held", .ref l)]) ∧ H k = some (.tup (kn.map V.str)) ∧ H l = some (.lst vs) ∧ Paired (roomV H) vs rooms
  lr : rooms.length ≤ 60
/-- a world of its own: a web, a table of rooms -/
inductive BaseS (K : PySem.W.Frag) (H : Hp) (q : Addr) (nm : List Str) : (List Str → Nat) → Prop
  | web {r : List Str → Nat} {pl : List Str} {en : Str → Str × Str} : WebS K H q pl en nm → (∀ A, Lot nm A → webRk pl en A = r A) → BaseS K H q nm r
  | cnt {r : List Str → Nat} {dx c : Addr} {kn : List Str} {rooms : List (List Str × Int)} : H q = some (.ins (He.ga K "CountsWorld") dx [("table", .ref c)]) → CntS K H c kn rooms → (∀ A, Lot nm A → cntRk rooms A = r A) → BaseS K H q nm r
abbrev ffs (a q d : Addr) : List (Str × V) := [("names", .ref a), ("source", .ref q), ("counted", .ref d)]
structure FamO (K : PySem.W.Frag) (R : Reg) (H : Hp) (p q : Addr) (nm : List Str) (r : List Str → Nat) : Prop where
  ob : ∃ dx a d, H p = some (.ins (He.ga K "Family") dx (ffs a q d)) ∧ H a = some (.tup (nm.map V.str)) ∧ R d = some (nm, r)
  ss : SS nm
  l8 : nm.length ≤ 8
  rk : Bf.IsRk r
  ok : ∀ x, x ∈ nm → PyData.strOk x = true
structure FamB (K : PySem.W.Frag) (R : Reg) (H : Hp) (p : Addr) (nm : List Str) (r : List Str → Nat) : Prop where
  src : ∃ q, FamO K R H p q nm r ∧ BaseS K H q nm r
/-- a family: over a world, or drawn out of one over a world -/
structure FamS (K : PySem.W.Frag) (R : Reg) (H : Hp) (p : Addr) (nm : List Str) (r : List Str → Nat) : Prop where
  src : ∃ q, FamO K R H p q nm r ∧ (BaseS K H q nm r ∨ ∃ dx p' t nm' r' L, H q = some (.ins (He.ga K "Drawn") dx [("inner", .ref p'), ("lot", .ref t)]) ∧ H t = some (.tup (L.map V.str)) ∧ FamB K R H p' nm' r' ∧
    Lot nm' L ∧ (∀ x, x ∈ nm → x ∈ nm' ∧ x ∉ L) ∧ r = drwRk r' L)
section
variable {K : PySem.W.Frag} {R : Reg} {H H' : Hp} {p q c : Addr} {nm kn pl : List Str} {r : List Str → Nat} {en : Str → Str × Str} {rooms : List (List Str × Int)}
theorem WebS.mono (k : Kp R H H') (h : WebS K H q pl en nm) : WebS K H' q pl en nm := by
  obtain ⟨⟨dx, kn, d, kvs, h1, h2, h3, h4⟩, a, b, e⟩ := h
  refine ⟨⟨dx, kn, d, kvs, k.at h1, k.at h2, k.at h3, fun t ht => ?_⟩, a, b, e⟩
  obtain ⟨x, e1, e2⟩ := h4 t ht
  exact ⟨x, e1, k.at e2⟩
theorem roomV.mono (k : Kp R H H') {v : V} {x : List Str × Int} (h : roomV H v x) : roomV H' v x := by
  obtain ⟨t, a, e, h1, h2⟩ := h
  exact ⟨t, a, e, k.at h1, k.at h2⟩
theorem CntS.mono (k : Kp R H H') (h : CntS K H c kn rooms) : CntS K H' c kn rooms := by
  obtain ⟨⟨dx, kk, l, vs, h1, h2, h3, h4⟩, a⟩ := h
  exact ⟨⟨dx, kk, l, vs, k.at h1, k.at h2, k.at h3, L2.Paired.mapP h4 fun _ _ z => z.mono k⟩, a⟩
theorem BaseS.mono (k : Kp R H H') (h : BaseS K H q nm r) : BaseS K H' q nm r := by
  cases h with
  | web h e => exact .web (h.mono k) e
  | cnt h1 h2 e => exact .cnt (k.at h1) (h2.mono k) e
theorem FamO.mono (k : Kp R H H') (h : FamO K R H p q nm r) : FamO K R H' p q nm r := by
  obtain ⟨⟨dx, a, d, h1, h2, h3⟩, e1, e2, e3, e4⟩ := h
  exact ⟨⟨dx, a, d, k.at h1, k.at h2, h3⟩, e1, e2, e3, e4⟩
theorem FamB.mono (k : Kp R H H') (h : FamB K R H p nm r) : FamB K R H' p nm r := by
  obtain ⟨q, h1, h2⟩ := h.src
  exact ⟨q, h1.mono k, h2.mono k⟩
theorem FamS.mono (k : Kp R H H') (h : FamS K R H p nm r) : FamS K R H' p nm r := by
  obtain ⟨q, h1, h2⟩ := h.src
  refine ⟨q, h1.mono k, h2.imp (fun z => z.mono k) fun ⟨dx, p', t, nm', r', L, a, b, f, e⟩ => ⟨dx, p', t, nm', r', L, k.at a, k.at b, f.mono k, e⟩⟩
theorem FamB.s (h : FamB K R H p nm r) : FamS K R H p nm r := by
  obtain ⟨q, h1, h2⟩ := h.src
  exact ⟨q, h1, .inl h2⟩
end
section
variable {P : Program} {w : World} {K : PySem.W.Frag} {mg : Str → Option Value} {base : Heap}

/-! ### webs -/
def spMarks (K : PySem.W.Frag) : Sp := fun vs H Q _ => ∃ (R : Reg) (q t : Addr) (pl nm : List Str) (en : Str → Str × Str) (A : List Str), vs = [.ref q, .ref t] ∧ WInv R H ∧ WebS K H q pl en nm ∧ H t = some (.tup (A.map V.str)) ∧ (∀ x, x ∈ A → x ∈ nm) ∧
  ∀ H' d, Kp R H H' → H d = none → H' d = some (.dK (DFn pl fun p => .str (marks en A p))) → Q (.ref d) H'
abbrev N_Web_marks : List Str := ["self", "lot", "place", "found", "tie", "one", "other", "low", "high"]
theorem sc_Web_marks : FnScope N_Web_marks ["self", "lot"] (defScope s_Web_marks) := ⟨rfl, rfl, rfl, by decide +kernel, rfl, by decide +kernel, by decide +kernel⟩
theorem marks_in {pl : List Str} {en : Str → Str × Str} {nm : List Str} (ei : ∀ t, t ∈ nm → (en t).1 ∈ pl ∧ (en t).2 ∈ pl) : ∀ (A : List Str), (∀ x, x ∈ A → x ∈ nm) → ∀ (f : Str → Str), (∀ p, p ∈ pl → f p ∈ pl) → ∀ p, p ∈ pl → A.foldl (mstep en) f p ∈ pl
  | [], _, f, h, p, hp => h p hp
  | a :: A, s, f, h, p, hp => by
    refine marks_in ei A (fun x hx => s x (List.mem_cons_of_mem _ hx)) (mstep en f a) (fun x hx => ?_) p hp
    obtain ⟨e1, e2⟩ := ei a (s a List.mem_cons_self)
    have hl : (if slt (f (en a).2) (f (en a).1) then f (en a).2 else f (en a).1) ∈ pl := by
      split
      · exact h _ e2
      · exact h _ e1
    unfold mstep
    by_cases c1 : f (en a).1 = f (en a).2
    · rw [if_pos c1]; exact h x hx
    · rw [if_neg c1]
      show (if f x = _ then _ else f x) ∈ pl
      by_cases c2 : f x = (if slt (f (en a).1) (f (en a).2) then f (en a).2 else f (en a).1)
      · rw [if_pos c2]; exact hl
      · rw [if_neg c2]; exact h x hx
theorem nodup_inr {A : List Str} (h : A.Nodup) : (A.map (Sum.inr : Str → Key)).Nodup := List.pairwise_map.mpr (List.Pairwise.imp (fun n e => n (Sum.inr.inj e)) h)
theorem c_Web_marks (T : Txt K mg) : CallM P w K mg base 1 "Web" "marks" ["self", "lot"] (spMarks K) := by
  refine mkMeth T.m_Web_marks sc_Web_marks (fun _ _ _ _ _ _ us hl => match us, hl with | [_, _], _ => rfl) (fun vs H Q E h => ?_) (fun cdv A outer s H vs Q E hr h => ?_)
  · obtain ⟨R, q, t, pl, nm, en, A, rfl, _⟩ := h; rfl
  · obtain ⟨R, o, t, pl, nm, en, As, rfl, wi, hW, ht, sub, q⟩ := h
    have hu := hu_of hr
    obtain ⟨dx, kn, de, kvs, h1, h2, h3, h4⟩ := hW.ob
    refine ⟨_, (pss_cons (ps_setDc (i := 3) (own := [("place", 2)]) (by rfl) sc_Web_marks.nd rfl rfl (sw_trueD rfl rfl rfl (by decide +kernel)) (pi_tup (show PE _ _ (tFld K _ "known") from pe_fld (pv 0) rfl)) (blkOk_by (own := [("place", 2)]) (N := N_Web_marks) (sc := defScope s_Web_marks) (by decide +kernel)) (fun _ _ _ _ _ => (pg_name (i := 2) sc_Web_marks.nd rfl (by first | exact Or.inl rfl | exact Or.inr rfl))) (fun _ _ _ _ _ => pts_nil) (fun _ _ _ _ _ => (pv 2)) (fun _ _ _ _ _ => (pv 2)))
      (pss_cons (ps_for PassesOwn.never rfl (pi_tup (pv 1)) (pg_name (i := 4) sc_Web_marks.nd rfl (by first | exact Or.inl rfl | exact Or.inr rfl)) (pss_cons (ps_par (by rfl) sc_Web_marks.nd (i := 5) (j := 6) rfl rfl (by decide) rfl rfl (pa_cons (pe_dget hu (pv 3) (pe_ix ix_tup (pe_dget hu (pe_fld (pv 0) rfl) (pv 4) (fun _ _ => rfl)) pe_int (fun _ _ => rfl)) (fun _ _ => rfl)) (pa_cons (pe_dget hu (pv 3) (pe_ix ix_tup (pe_dget hu (pe_fld (pv 0) rfl) (pv 4) (fun _ _ => rfl)) pe_int (fun _ _ => rfl)) (fun _ _ => rfl)) pa_nil)) (by rfl))
      (pss_one (ps_if (pt_cmpR op_ne (pv 5) (pv 6) (nomark _)) (pss_cons (ps_par (by rfl) sc_Web_marks.nd (i := 7) (j := 8) rfl rfl (by decide) rfl rfl (pa_cons (pe_callB (call_min2s rfl) (by rfl) T.f_min bt_min (pa_cons (pv 5) (pa_cons (pv 6) pa_nil))) (pa_cons (pe_callB (call_max2s rfl) (by rfl) T.f_max bt_max (pa_cons (pv 5) (pa_cons (pv 6) pa_nil))) pa_nil)) (by rfl))
      (pss_one (ps_for PassesOwn.never rfl (pi_tup (pe_fld (pv 0) rfl)) (pg_name (i := 2) sc_Web_marks.nd rfl (by first | exact Or.inl rfl | exact Or.inr rfl)) (pss_one (ps_if (pt_cmpR op_eq (pe_dget hu (pv 3) (pv 2) (fun _ _ => rfl)) (pv 8) (nomark _)) (pss_one (ps_dput hu (pv 3) (pv 2) (pv 7) rfl)) pss_nil))))) pss_nil))))
      (pss_one (ps_ret (pv 3))))), ?_⟩
    -- found = {place: place for place in self.known}
    refine ⟨_, rfl, o, _, dx, _, _, rfl, h1, T.c_Web, T.n_Web_known, rfl, kn, rfl, ⟨_, SqT.of h2⟩, fun D hD => ?_⟩
    refine dcG hD (src_tup (c := V.str) (its := pl) h2) wi (Nat.le_trans hW.lp (by decide)) (fun p v _ => v = .str p) Sum.inr (fun _ _ _ _ _ h => h) (fun _ _ _ _ _ _ h => h) ?_ (fun _ => rfl) (fun _ _ _ _ q => q)
      (fun x hx H1 Q' q' => ⟨_, rfl, q'⟩) (fun x hx H1 k Q' q' => ⟨_, rfl, q' _ H1 (Kp.refl k.w) rfl⟩) fun H1 kv1 k1 e1 pr => ?_
    · exact nodup_inr hW.nd
    have ekv : kv1 = DFn pl (fun p => .str (marks en (As.take 0) p)) := by
      have aux : ∀ {a : List Str} {b : List (Key × V)}, Paired (fun (i : Str) (kv : Key × V) => kv.1 = Sum.inr i ∧ kv.2 = .str i) a b → b = DFn a fun p => .str p := by
        intro a b pp
        induction pp with
        | nil => rfl
        | cons r t ih => rw [ih]; show _ = (Sum.inr _, V.str _) :: _; rw [← r.1, ← r.2]; rfl
      rw [aux pr]; rfl
    subst ekv
    -- for tie in lot
    refine ⟨_, rfl, t, rfl, ⟨_, SqT.of (k1.at ht)⟩, ?_⟩
    refine forG (G := fun H2 => H2 t = some (.tup (As.map V.str))) (src_tupG (c := V.str) (its := As) fun _ g => g)
      (fun i σ H2 => ∃ v2 v4 v5 v6 v7 v8, σ = [some (.ref o), some (.ref t), v2, some (.ref D), v4, v5, v6, v7, v8] ∧ Kp R H H2 ∧ H2 D = some (.dK (DFn pl fun p => .str (marks en (As.take i) p))))
      (fun i σ H2 ⟨_, _, _, _, _, _, _, k, _⟩ => k.at ht) ⟨none, none, none, none, none, none, rfl, k1, e1⟩ ?_ ?_
    · rintro i x σ H2 hx ⟨v2, v4, v5, v6, v7, v8, rfl, k2, hd2⟩
      have hxn : x ∈ nm := sub x (List.mem_of_getElem? hx)
      obtain ⟨e, he, het⟩ := h4 x hxn
      obtain ⟨ei1, ei2⟩ := hW.ei x hxn
      have hm : ∀ p, p ∈ pl → marks en (As.take i) p ∈ pl := marks_in hW.ei (As.take i) (fun y hy => sub y (List.mem_of_mem_take hy)) id (fun p hp => hp)
      have e3 : marks en (As.take (i + 1)) = mstep en (marks en (As.take i)) x := by
        unfold marks
        rw [take_succ_at hx, List.foldl_append]; rfl
      -- one, other = found[self.ending[tie][0]], found[self.ending[tie][1]]
      refine ⟨_, rfl, _, rfl, o, _, dx, _, _, rfl, k2.at h1, T.c_Web, T.n_Web_ending, rfl, _, rfl, de, _, rfl, ((show DGet _ _ (kV (Sum.inr x)) _ from he ▸ DGet.k (k2.at h3))), e, _, 0, _, rfl, rfl, SqT.of (k2.at het), rfl, D, _, rfl, ((show DGet _ _ (kV (Sum.inr (en x).1)) _ from dfn_get ei1 ▸ DGet.k hd2)), ?_⟩
      refine ⟨_, rfl, _, rfl, o, _, dx, _, _, rfl, k2.at h1, T.c_Web, T.n_Web_ending, rfl, _, rfl, de, _, rfl, ((show DGet _ _ (kV (Sum.inr x)) _ from he ▸ DGet.k (k2.at h3))), e, _, 1, _, rfl, rfl, SqT.of (k2.at het), rfl, D, _, rfl, ((show DGet _ _ (kV (Sum.inr (en x).2)) _ from dfn_get ei2 ▸ DGet.k hd2)), ?_⟩
      refine ⟨_, _, rfl, ?_⟩
      refine ⟨_, rfl, _, rfl, rfl, _, rfl, ?_⟩
      by_cases hne : marks en (As.take i) (en x).1 = marks en (As.take i) (en x).2
      · have b1 : (!decide (V.str (marks en (As.take i) (en x).1) = V.str (marks en (As.take i) (en x).2))) = false := by rw [hne]; simp
        rw [b1]
        refine iteF ⟨_, _, _, _, _, _, rfl, k2, ?_⟩
        rw [e3]
        unfold mstep
        rw [if_pos hne]
        exact hd2
      · have b1 : (!decide (V.str (marks en (As.take i) (en x).1) = V.str (marks en (As.take i) (en x).2))) = true := by
          rw [decide_eq_false fun z => hne (V.str.inj z)]; rfl
        rw [b1]
        refine iteT ⟨_, rfl, _, rfl, _, _, rfl, _, rfl, _, rfl, _, _, rfl, _, _, rfl, ?_⟩
        -- for place in self.known
        refine ⟨_, rfl, o, _, dx, _, _, rfl, k2.at h1, T.c_Web, T.n_Web_known, rfl, kn, rfl, ⟨_, SqT.of (k2.at h2)⟩, ?_⟩
        refine forG (G := fun H3 => H3 kn = some (.tup (pl.map V.str))) (src_tupG (c := V.str) (its := pl) fun _ g => g)
          (fun j σ H3 => ∃ v2, σ = [some (.ref o), some (.ref t), v2, some (.ref D), some (.str x), some (.str (marks en (As.take i) (en x).1)), some (.str (marks en (As.take i) (en x).2)),
            some (.str (if slt (marks en (As.take i) (en x).2) (marks en (As.take i) (en x).1) then marks en (As.take i) (en x).2 else marks en (As.take i) (en x).1)),
            some (.str (if slt (marks en (As.take i) (en x).1) (marks en (As.take i) (en x).2) then marks en (As.take i) (en x).2 else marks en (As.take i) (en x).1))] ∧ Kp R H H3 ∧
            H3 D = some (.dK (DFn pl fun p => .str (if p ∈ pl.take j then mstep en (marks en (As.take i)) x p else marks en (As.take i) p))))
          (fun j σ H3 ⟨_, _, k, _⟩ => k.at h2) ⟨v2, rfl, k2, by rw [hd2]; congr 2⟩ ?_ ?_
        · rintro j p σ H3 hp ⟨v2, rfl, k3, hd3⟩
          have hpl : p ∈ pl := List.mem_of_getElem? hp
          have hpj : p ∉ pl.take j := fun hq => by
            have nd' := hW.nd
            rw [← List.take_append_drop j pl, List.nodup_append] at nd'
            exact nd'.2.2 _ hq _ (List.mem_of_getElem? (i := 0) (by rw [List.getElem?_drop]; exact hp)) rfl
          have ems : mstep en (marks en (As.take i)) x p = if marks en (As.take i) p = (if slt (marks en (As.take i) (en x).1) (marks en (As.take i) (en x).2) then marks en (As.take i) (en x).2 else marks en (As.take i) (en x).1) then
              (if slt (marks en (As.take i) (en x).2) (marks en (As.take i) (en x).1) then marks en (As.take i) (en x).2 else marks en (As.take i) (en x).1) else marks en (As.take i) p := by
            unfold mstep; rw [if_neg hne]
          have ep : (if p ∈ pl.take j then mstep en (marks en (As.take i)) x p else marks en (As.take i) p) = marks en (As.take i) p := if_neg hpj
          have nx : ∀ y, y ∈ pl → (if y ∈ pl.take (j + 1) then mstep en (marks en (As.take i)) x y else marks en (As.take i) y) = if y = p then mstep en (marks en (As.take i)) x p else (if y ∈ pl.take j then mstep en (marks en (As.take i)) x y else marks en (As.take i) y) := fun y hy => by
            rw [take_succ_at hp]
            by_cases ey : y = p
            · subst ey; simp
            · simp [ey]
          refine ⟨_, rfl, _, rfl, D, _, rfl, ((show DGet _ _ (kV (Sum.inr p)) _ from dfn_get hpl ▸ DGet.k hd3)), _, rfl, rfl, _, rfl, ?_⟩
          rw [ep]
          refine ite2 (fun hc => ?_) (fun hc => ?_)
          · have hc' := V.str.inj (of_decide_eq_true hc)
            refine ⟨_, rfl, _, rfl, _, rfl, D, _, rfl, DPut.k (k := Sum.inr p) hd3 (by rw [dfn_len]; exact Nat.lt_of_le_of_lt hW.lp (by decide)), ?_⟩
            refine ⟨_, rfl, k3.mut hD, ?_⟩
            rw [upd_same, dfn_put hpl]
            congr 2
            refine dfn_congr fun y hy => ?_
            rw [nx y hy]
            by_cases ey : y = p
            · rw [if_pos ey, if_pos ey, ems, if_pos hc']
            · rw [if_neg ey, if_neg ey]
          · have hc' : ¬ _ = _ := fun z => hc (decide_eq_true (congrArg V.str z))
            refine ⟨_, rfl, k3, ?_⟩
            rw [hd3]
            congr 2
            refine dfn_congr fun y hy => ?_
            rw [nx y hy]
            by_cases ey : y = p
            · rw [if_pos ey, ey, ep, ems, if_neg hc']
            · rw [if_neg ey]
        · rintro σ H3 ⟨v2, rfl, k3, hd3⟩
          refine ⟨_, _, _, _, _, _, rfl, k3, ?_⟩
          rw [hd3, e3]
          congr 2
          refine dfn_congr fun y hy => ?_
          rw [List.take_length, if_pos hy]
    · rintro σ H2 ⟨v2, v4, v5, v6, v7, v8, rfl, k2, hd2⟩
      rw [List.take_length] at hd2
      exact ⟨_, rfl, q H2 D k2 hD hd2⟩
end
end Bw
set_option Elab.async false
set_option linter.all false
set_option maxRecDepth 100000
set_option maxHeartbeats 4000000
/-! worlds' ranks; families' ranks and memos -/
namespace Bw
open PySem PySem.Spec PyProof.Rows L2 Bt Bs Bm
section
variable {P : Program} {w : World} {K : PySem.W.Frag} {mg : Str → Option Value} {base : Heap}

def spWebCount (K : PySem.W.Frag) : Sp := fun vs H Q _ => ∃ (R : Reg) (q t : Addr) (pl nm : List Str) (en : Str → Str × Str) (A : List Str), vs = [.ref q, .ref t] ∧ WInv R H ∧ WebS K H q pl en nm ∧ H t = some (.tup (A.map V.str)) ∧ (∀ x, x ∈ A → x ∈ nm) ∧
  ∀ H', Kp R H H' → Q (.int (webRk pl en A)) H'
abbrev N_Web_count_free : List Str := ["self", "lot", "found", "place"]
theorem sc_Web_count_free : FnScope N_Web_count_free ["self", "lot"] (defScope s_Web_count_free) := ⟨rfl, rfl, rfl, by decide +kernel, rfl, by decide +kernel, by decide +kernel⟩
theorem c_Web_count_free (T : Txt K mg) : CallM P w K mg base 2 "Web" "count_free" ["self", "lot"] (spWebCount K) := by
  obtain ⟨fdm, F_c_Web_marks, b_c_Web_marks⟩ := (c_Web_marks (P := P) (w := w) (base := base) T).ex
  refine mkMeth T.m_Web_count_free sc_Web_count_free (fun _ _ _ _ _ _ us hl => match us, hl with | [_, _], _ => rfl) (fun vs H Q E h => ?_) (fun cdv A outer s H vs Q E hr h => ?_)
  · obtain ⟨R, q, t, pl, nm, en, A, rfl, _⟩ := h; rfl
  · obtain ⟨R, o, t, pl, nm, en, As, rfl, wi, hW, ht, sub, q⟩ := h
    have hu := hu_of hr
    obtain ⟨dx, kn, de, kvs, h1, h2, h3, h4⟩ := hW.ob
    refine ⟨_, (pss_cons (ps_set (i := 2) sc_Web_count_free.nd rfl (Or.inr rfl) (pe_meth (pv 0) T.c_Web T.h_Web_marks F_c_Web_marks (hr.mono (by decide)) b_c_Web_marks .nil pass0 (pa_cons (pv 1) pa_nil)))
      (pss_one (ps_ret (pe_callB call_len_seq (by rfl) T.f_len bt_len (pa_cons (pe_lc (own := [("place", 3)]) (by rfl) sc_Web_count_free.nd (pi_tup (show PE _ _ (tFld K _ "known") from pe_fld (pv 0) rfl)) (blkOk_by (own := [("place", 3)]) (N := N_Web_count_free) (sc := defScope s_Web_count_free) (by decide +kernel)) (fun _ _ _ _ _ => (pg_name (i := 3) sc_Web_count_free.nd rfl (by first | exact Or.inl rfl | exact Or.inr rfl))) (fun _ _ _ _ _ => (pts_one (pt_cmpR op_ne (pe_dget hu (pv 2) (pv 3) (fun _ _ => rfl)) (pv 3) (nomark _)))) (fun _ _ _ _ _ => (pv 3))) pa_nil))))), ?_⟩
    refine ⟨_, rfl, o, dx, _, rfl, h1, rfl, _, rfl, R, o, t, pl, nm, en, As, rfl, wi, hW, ht, sub, fun H1 d k nd hd => ?_⟩
    refine ⟨_, rfl, o, _, dx, _, _, rfl, k.at h1, T.c_Web, T.n_Web_known, rfl, kn, rfl, ⟨_, SqT.of (k.at h2)⟩, fun D hD => ?_⟩
    refine lcN hD (src_tup (c := V.str) (its := pl) (k.at h2)) k.w (Nat.le_trans hW.lp (by decide)) (fun p => decide (marks en As p ≠ p)) V.str (fun _ => rfl) (fun p hp H2 k2 QT q' => ?_) (fun p hp _ H2 k2 Q' q' => ⟨_, rfl, q' H2 (Kp.refl k2.w)⟩) fun H2 k2 e => ?_
    · refine ⟨_, rfl, _, rfl, d, _, rfl, ((show DGet _ _ (kV (Sum.inr p)) _ from dfn_get hp ▸ DGet.k (k2.at hd))), _, rfl, rfl, _, rfl, ?_⟩
      have e : (!decide (V.str (marks en As p) = V.str p)) = decide (marks en As p ≠ p) := by
        by_cases z : marks en As p = p
        · rw [z]; simp
        · rw [decide_eq_false fun y => z (V.str.inj y), decide_eq_true z]; rfl
      rw [e]
      exact q' H2 (Kp.refl k2.w)
    · refine ⟨D, _, rfl, .inl (SqL.of e), ?_⟩
      rw [List.length_map]
      exact q H2 (k.trans k2)

/-! ### counts -/
def spShared : Sp := fun vs H Q _ => ∃ (R : Reg) (a b : Addr) (A S : List Str), vs = [.ref a, .ref b] ∧ WInv R H ∧ H a = some (.lst (A.map V.str)) ∧ H b = some (.tup (S.map V.str)) ∧ A.length ≤ 60 ∧
  ∀ H' p, Kp R H H' → H p = none → H' p = some (.lst ((A.filter fun x => decide (x ∈ S)).map V.str)) → Q (.ref p) H'
abbrev N_shared : List Str := ["one", "other", "thing"]
theorem sc_shared : FnScope N_shared ["one", "other"] (defScope s_shared) := ⟨rfl, rfl, rfl, by decide +kernel, rfl, by decide +kernel, by decide +kernel⟩
theorem c_shared (T : Txt K mg) : Call P w K mg base 1 "shared" ["one", "other"] spShared := by
  refine mkCall T.d_shared sc_shared (fun _ _ _ _ _ _ us hl => match us, hl with | [_, _], _ => rfl) (fun vs H Q E h => ?_) (fun cdv A outer s H vs Q E hr h => ?_)
  · obtain ⟨R, a, b, A, S, rfl, _⟩ := h; rfl
  · obtain ⟨R, a, b, As, Ss, rfl, wi, ha, hb, hl, q⟩ := h
    refine ⟨_, (pss_one (ps_ret (pe_lc (own := [("thing", 2)]) (by rfl) sc_shared.nd (pi_list (pv 0)) (blkOk_by (own := [("thing", 2)]) (N := N_shared) (sc := defScope s_shared) (by decide +kernel)) (fun _ _ _ _ _ => (pg_name (i := 2) sc_shared.nd rfl (by first | exact Or.inl rfl | exact Or.inr rfl))) (fun _ _ _ _ _ => (pts_one (pt_cmpR (show OpR _ _ (rIn K false) from op_in_seq) (pv 2) (pv 1) (by rfl)))) (fun _ _ _ _ _ => (pv 2))))), ?_⟩
    refine ⟨_, rfl, a, rfl, ⟨_, SqL.of ha⟩, fun D hD => ?_⟩
    refine lcN hD (src_lst (c := V.str) (its := As) ha) wi (by omega) (fun x => decide (x ∈ Ss)) V.str (fun _ => rfl)
      (fun x hx H1 k QT q' => ⟨_, rfl, _, rfl, b, Ss.map V.str, rfl, .inr (SqT.of (k.at hb)), rfl, flat_strs _, _, rfl, by rw [inV_str]; simpa using q' H1 (Kp.refl k.w)⟩)
      (fun x hx hT H1 k Q' q' => ⟨_, rfl, q' H1 (Kp.refl k.w)⟩) fun H1 k e => ?_
    exact q _ D k hD e
def spSharedT : Sp := fun vs H Q _ => ∃ (R : Reg) (a b : Addr) (A S : List Str), vs = [.ref a, .ref b] ∧ WInv R H ∧ H a = some (.tup (A.map V.str)) ∧ H b = some (.tup (S.map V.str)) ∧ A.length ≤ 60 ∧
  ∀ H' p, Kp R H H' → H p = none → H' p = some (.lst ((A.filter fun x => decide (x ∈ S)).map V.str)) → Q (.ref p) H'
theorem c_sharedT (T : Txt K mg) : Call P w K mg base 1 "shared" ["one", "other"] spSharedT := by
  refine mkCall T.d_shared sc_shared (fun _ _ _ _ _ _ us hl => match us, hl with | [_, _], _ => rfl) (fun vs H Q E h => ?_) (fun cdv A outer s H vs Q E hr h => ?_)
  · obtain ⟨R, a, b, A, S, rfl, _⟩ := h; rfl
  · obtain ⟨R, a, b, As, Ss, rfl, wi, ha, hb, hl, q⟩ := h
    refine ⟨_, (pss_one (ps_ret (pe_lc (own := [("thing", 2)]) (by rfl) sc_shared.nd (pi_tup (pv 0)) (blkOk_by (own := [("thing", 2)]) (N := N_shared) (sc := defScope s_shared) (by decide +kernel)) (fun _ _ _ _ _ => (pg_name (i := 2) sc_shared.nd rfl (by first | exact Or.inl rfl | exact Or.inr rfl))) (fun _ _ _ _ _ => (pts_one (pt_cmpR (show OpR _ _ (rIn K false) from op_in_seq) (pv 2) (pv 1) (by rfl)))) (fun _ _ _ _ _ => (pv 2))))), ?_⟩
    refine ⟨_, rfl, a, rfl, ⟨_, SqT.of ha⟩, fun D hD => ?_⟩
    refine lcN hD (src_tup (c := V.str) (its := As) ha) wi (by omega) (fun x => decide (x ∈ Ss)) V.str (fun _ => rfl)
      (fun x hx H1 k QT q' => ⟨_, rfl, _, rfl, b, Ss.map V.str, rfl, .inr (SqT.of (k.at hb)), rfl, flat_strs _, _, rfl, by rw [inV_str]; simpa using q' H1 (Kp.refl k.w)⟩)
      (fun x hx hT H1 k Q' q' => ⟨_, rfl, q' H1 (Kp.refl k.w)⟩) fun H1 k e => ?_
    exact q _ D k hD e
/-- None, or a number: whether some room has too many -/
def spFirstOver (K : PySem.W.Frag) : Sp := fun vs H Q _ => ∃ (R : Reg) (c l : Addr) (kn : List Str) (rooms : List (List Str × Int)) (A : List Str), vs = [.ref c, .ref l] ∧ WInv R H ∧ CntS K H c kn rooms ∧ H l = some (.lst (A.map V.str)) ∧ A.length ≤ 60 ∧
  ∀ H' v, Kp R H H' → decide (v = .non) = !over rooms A → Q v H'
abbrev N_first_over : List Str := ["counts", "lot", "index", "room", "number"]
theorem sc_first_over : FnScope N_first_over ["counts", "lot"] (defScope s_first_over) := ⟨rfl, rfl, rfl, by decide +kernel, rfl, by decide +kernel, by decide +kernel⟩
theorem c_first_over (T : Txt K mg) : Call P w K mg base 2 "first_over" ["counts", "lot"] (spFirstOver K) := by
  refine mkCall T.d_first_over sc_first_over (fun _ _ _ _ _ _ us hl => match us, hl with | [_, _], _ => rfl) (fun vs H Q E h => ?_) (fun cdv A outer s H vs Q E hr h => ?_)
  · obtain ⟨R, c, l, kn, rooms, A, rfl, _⟩ := h; rfl
  · obtain ⟨R, c, l, kn, rooms, As, rfl, wi, hC, hl, hz, q⟩ := h
    obtain ⟨dx, kk, hd, vs, h1, h2, h3, h4⟩ := hC.ob
    obtain ⟨its, rfl, rfl, hits⟩ := paired_zip h4
    refine ⟨_, (pss_cons (ps_for PassesOwn.never rfl (pi_enum (by rfl) T.f_enumerate (pa_cons (pe_fld (pv 0) rfl) pa_nil)) (pg_tup (by rfl) (pgs_cons (pg_name (i := 2) sc_first_over.nd rfl (by first | exact Or.inl rfl | exact Or.inr rfl)) (pgs_cons (pg_tup (by rfl) (pgs_cons (pg_name (i := 3) sc_first_over.nd rfl (by first | exact Or.inl rfl | exact Or.inr rfl)) (pgs_cons (pg_name (i := 4) sc_first_over.nd rfl (by first | exact Or.inl rfl | exact Or.inr rfl)) pgs_nil))) pgs_nil))) (pss_one (ps_if (pt_cmpR op_gt (pe_callB call_len_seq (by rfl) T.f_len bt_len (pa_cons (pe_f (c_shared T) hr (pa_cons (pv 1) (pa_cons (pv 3) pa_nil))) pa_nil)) (pv 4) (nomark _)) (pss_one (ps_ret (pv 2))) pss_nil)))
      (pss_one (ps_ret pe_non))), ?_⟩
    refine ⟨_, rfl, c, _, dx, _, _, rfl, h1, T.c_Counts, T.n_Counts_held, rfl, hd, _, rfl, SqL.of h3, ?_⟩
    refine forE (G := fun H1 => H1 hd = some (.lst (its.map (·.1)))) (c := (·.1)) (its := its) (fun H1 g => SqL.of g)
      (fun i σ H1 => ∃ v2 v3 v4, σ = [some (.ref c), some (.ref l), v2, v3, v4] ∧ Kp R H H1 ∧ over ((its.take i).map (·.2)) As = false)
      (fun i σ H1 ⟨_, _, _, _, k, _⟩ => k.at h3) ⟨none, none, none, rfl, Kp.refl wi, rfl⟩ ?_ ?_
    · rintro i x σ H1 t hx ⟨v2, v3, v4, rfl, k, ho⟩ ht
      obtain ⟨rt, ra, ev, hrt, hra⟩ := hits x (List.mem_of_getElem? hx)
      have k2 := k.new ht (o := .tup [.int (i : Nat), x.1])
      refine ⟨t, _, rfl, SqT.of upd_same, rfl, _, _, rfl, _, _, rfl, ⟨rt, _, ev, SqT.of (k2.at hrt), rfl, _, _, rfl, _, _, rfl, rfl, ?_⟩⟩
      refine ⟨rfl, ?_⟩
      refine ⟨_, rfl, _, rfl, R, l, ra, As, x.2.1, rfl, k2.w, k2.at hl, k2.at hra, hz, fun H2 p k3 np hp => ?_⟩
      refine ⟨p, _, rfl, .inl (SqL.of hp), _, rfl, _, _, rfl, rfl, _, rfl, ?_⟩
      have e1 : over ((its.take (i + 1)).map (·.2)) As = decide (x.2.2 < ((As.filter fun y => decide (y ∈ x.2.1)).length : Int)) := by
        have ho' := ho
        unfold over at ho' ⊢
        rw [take_succ_at hx, List.map_append, List.any_append, ho']
        simp
      rw [List.length_map]
      refine ite2 (fun hc => ?_) (fun hc => ?_)
      · refine ⟨_, rfl, q H2 _ (k2.trans k3) ?_⟩
        have : over (its.map (·.2)) As = true := by
          have e2 := e1
          rw [hc] at e2
          unfold over at e2 ⊢
          rw [← List.take_append_drop (i + 1) its, List.map_append, List.any_append, e2]
          rfl
        rw [this]; rfl
      · refine ⟨_, _, _, rfl, k2.trans k3, ?_⟩
        rw [e1]
        simpa using hc
    · rintro σ H1 ⟨v2, v3, v4, rfl, k, ho⟩
      rw [List.take_length] at ho
      refine q H1 _ k ?_
      rw [ho]; rfl
def spCntCount (K : PySem.W.Frag) : Sp := fun vs H Q _ => ∃ (R : Reg) (q t c dx : Addr) (kn : List Str) (rooms : List (List Str × Int)) (A : List Str), vs = [.ref q, .ref t] ∧ WInv R H ∧ H q = some (.ins (He.ga K "CountsWorld") dx [("table", .ref c)]) ∧ CntS K H c kn rooms ∧
  H t = some (.tup (A.map V.str)) ∧ A.length ≤ 59 ∧ ∀ H', Kp R H H' → Q (.int (cntRk rooms A)) H'
abbrev N_CountsWorld_count_free : List Str := ["self", "lot", "found", "thing"]
theorem sc_CountsWorld_count_free : FnScope N_CountsWorld_count_free ["self", "lot"] (defScope s_CountsWorld_count_free) := ⟨rfl, rfl, rfl, by decide +kernel, rfl, by decide +kernel, by decide +kernel⟩
theorem cntL_len (rooms : List (List Str × Int)) : ∀ (A f : List Str), (A.foldl (cstep rooms) f).length ≤ f.length + A.length
  | [], f => Nat.le_refl _
  | a :: A, f => by
    refine Nat.le_trans (cntL_len rooms A (cstep rooms f a)) ?_
    unfold cstep
    split
    · rw [List.length_cons]; omega
    · simp only [List.length_append, List.length_cons, List.length_nil]; omega
theorem c_CountsWorld_count_free (T : Txt K mg) : CallM P w K mg base 3 "CountsWorld" "count_free" ["self", "lot"] (spCntCount K) := by
  refine mkMeth T.m_CountsWorld_count_free sc_CountsWorld_count_free (fun _ _ _ _ _ _ us hl => match us, hl with | [_, _], _ => rfl) (fun vs H Q E h => ?_) (fun cdv A outer s H vs Q E hr h => ?_)
  · obtain ⟨R, q, t, c, dx, kn, rooms, A, rfl, _⟩ := h; rfl
  · obtain ⟨R, o, t, c, dx, kn, rooms, As, rfl, wi, h1, hC, ht, hz, q⟩ := h
    refine ⟨_, (pss_cons (ps_set (i := 2) sc_CountsWorld_count_free.nd rfl (Or.inl rfl) (pe_lst pa_nil))
      (pss_cons (ps_for PassesOwn.never rfl (pi_tup (pv 1)) (pg_name (i := 3) sc_CountsWorld_count_free.nd rfl (by first | exact Or.inl rfl | exact Or.inr rfl)) (pss_one (ps_if (pt_cmpR op_isN (pe_f (c_first_over T) hr (pa_cons (pe_fld (pv 0) rfl) (pa_cons (pe_lst (StX.pa_star (pv 2) (pa_cons (pv 3) pa_nil))) pa_nil))) pe_non (nomark _)) (pss_one (ps_expr (pe_bm PySem.F.plainAttrs_list PySem.F.slot_list_append PySem.F.type_list_append mt_append (pv 2) (pa_cons (pv 3) pa_nil)))) pss_nil)))
      (pss_one (ps_ret (pe_callB call_len_seq (by rfl) T.f_len bt_len (pa_cons (pv 2) pa_nil)))))), ?_⟩
    refine ⟨Nat.zero_le _, fun l nl => ?_⟩
    refine ⟨_, rfl, t, rfl, ⟨_, SqT.of ((Kp.upd wi nl).at ht)⟩, ?_⟩
    refine forG (G := fun H1 => H1 t = some (.tup (As.map V.str))) (src_tupG (c := V.str) (its := As) fun _ g => g)
      (fun i σ H1 => ∃ v3, σ = [some (.ref o), some (.ref t), some (.ref l), v3] ∧ Kp R H H1 ∧ H1 l = some (.lst ((cntL rooms (As.take i)).map V.str)))
      (fun i σ H1 ⟨_, _, k, _⟩ => k.at ht) ⟨none, rfl, Kp.upd wi nl, upd_same⟩ ?_ ?_
    · rintro i x σ H1 hx ⟨v3, rfl, k, hl⟩
      have hi : i < As.length := (List.getElem?_eq_some_iff.mp hx).1
      have hlen : (cntL rooms (As.take i)).length ≤ As.length := by
        refine Nat.le_trans (cntL_len rooms _ []) ?_
        rw [List.length_nil, List.length_take]; omega
      have es : cntL rooms (As.take (i + 1)) = cstep rooms (cntL rooms (As.take i)) x := by
        unfold cntL
        rw [take_succ_at hx, List.foldl_append]; rfl
      refine ⟨_, rfl, o, _, dx, _, _, rfl, k.at h1, T.c_CountsWorld, T.n_CountsWorld_table, rfl, _, rfl, l, _, rfl, .inr (SqL.of hl), _, rfl, ?_, fun l2 nl2 => ?_⟩
      · rw [List.length_append, List.length_map]
        exact Nat.le_trans (show _ ≤ 59 + 1 from Nat.add_le_add_right (Nat.le_trans hlen hz) _) (by decide)
      have k2 := k.new nl2 (o := .lst ((cntL rooms (As.take i)).map V.str ++ [V.str x]))
      have hl2 := (Kp.upd k.w nl2 (o := .lst ((cntL rooms (As.take i)).map V.str ++ [V.str x]))).at hl
      refine ⟨R, c, l2, kn, rooms, cntL rooms (As.take i) ++ [x], rfl, k2.w, hC.mono k2, by rw [upd_same, List.map_append]; rfl, by rw [List.length_append, List.length_singleton]; omega, fun H2 v k3 hv => ?_⟩
      refine ⟨rfl, _, rfl, ?_⟩
      rw [hv]
      cases ho : over rooms (cntL rooms (As.take i) ++ [x]) with
      | true =>
        refine iteF ⟨_, rfl, k2.trans k3, ?_⟩
        rw [es]
        unfold cstep
        rw [if_pos ho]
        exact k3.at hl2
      | false =>
        refine iteT ⟨_, rfl, .inl ⟨rfl, _, SqL.of (k3.at hl2)⟩, _, rfl, l, _, _, rfl, rfl, k3.at hl2, ?_, ?_⟩
        · rw [List.length_map]; exact Nat.lt_of_le_of_lt (Nat.le_trans hlen hz) (by decide)
        refine ⟨_, rfl, (k2.trans k3).mut nl, ?_⟩
        rw [es, upd_same]
        unfold cstep
        rw [if_neg (by rw [ho]; exact Bool.false_ne_true), List.map_append]
        rfl
    · rintro σ H1 ⟨v3, rfl, k, hl⟩
      rw [List.take_length] at hl
      refine ⟨_, rfl, l, _, rfl, .inl (SqL.of hl), ?_⟩
      rw [List.length_map]
      exact q H1 k
end
end Bw
set_option Elab.async false
set_option linter.all false
set_option maxRecDepth 100000
set_option maxHeartbeats 4000000
/-! families' ranks and memos -/
namespace Bw
open PySem PySem.Spec PyProof.Rows L2 Bt Bs Bm
section
variable {P : Program} {w : World} {K : PySem.W.Frag} {mg : Str → Option Value} {base : Heap}
/-! ### a memo -/
theorem Memo.len {nm : List Str} {r : List Str → Nat} {kvs : List (List Key × V)} (h : Memo nm r kvs) (l : nm.length ≤ 8) : kvs.length ≤ 256 := by
  have h1 : (kvs.map (·.1)).length ≤ ((subs nm).map (List.map (Sum.inr : Str → Key))).length := Bf.nodup_le h.nd fun k hk => by
    obtain ⟨⟨k', v⟩, hp, rfl⟩ := List.mem_map.mp hk
    cases e : valV kvs k' with
    | none =>
      have : k' ∈ kvs.map (·.1) := hk
      exfalso
      unfold valV at e
      rw [Option.map_eq_none_iff, List.find?_eq_none] at e
      exact e _ hp (decide_eq_true rfl)
    | some u =>
      obtain ⟨A, ek, ea, _⟩ := h.ok k' u e
      refine List.mem_map.mpr ⟨A, ?_, ek.symm⟩
      rw [ea]; exact filter_subs _ nm
  rw [List.length_map, List.length_map, subs_len] at h1
  have h2 : 2 ^ nm.length ≤ 2 ^ 8 := Nat.pow_le_pow_right (by decide) l
  have h3 : (2 : Nat) ^ 8 = 256 := by decide
  omega
theorem Memo.put {nm A : List Str} {r : List Str → Nat} {kvs : List (List Key × V)} (h : Memo nm r kvs) (hA : Lot nm A) : Memo nm r (putK kvs (A.map Sum.inr) (.int (r A))) := by
  refine ⟨nd_put h.nd _ _, fun k v hv => ?_⟩
  rw [valV_put] at hv
  by_cases e : k = A.map Sum.inr
  · rw [if_pos e] at hv
    cases hv
    exact ⟨A, e, hA, rfl⟩
  · rw [if_neg e] at hv
    exact h.ok k v hv
theorem Memo.get {nm A : List Str} {r : List Str → Nat} {kvs : List (List Key × V)} (h : Memo nm r kvs) {v : V} (e : valV kvs (A.map Sum.inr) = some v) : v = .int (r A) := by
  obtain ⟨B, e1, _, e3⟩ := h.ok _ v e
  rw [inr_inj e1]; exact e3
/-- a store into a family's memo keeps all -/
theorem Kp.memo {R : Reg} {H : Hp} {d : Addr} {nm A : List Str} {r : List Str → Nat} {kvs : List (List Key × V)} (w : WInv R H) (hd : R d = some (nm, r)) (e : H d = some (.dT kvs)) (m : Memo nm r kvs) (hA : Lot nm A) :
    Kp R H (L2.upd H d (.dT (putK kvs (A.map Sum.inr) (.int (r A))))) := by
  refine ⟨w, fun c nm' r' hc => ?_, fun b o hb hn => ?_, fun b hb => ?_⟩
  · by_cases q : c = d
    · subst q
      rw [hd] at hc
      cases hc
      exact ⟨_, upd_same, m.put hA⟩
    · obtain ⟨ks, e1, m1⟩ := w c nm' r' hc
      exact ⟨ks, by rw [upd_ne q]; exact e1, m1⟩
  · have q : b ≠ d := fun q => by
      rw [q, e] at hb
      cases hb
      cases hn
    rw [upd_ne q]; exact hb
  · by_cases q : b = d
    · rw [q, upd_same] at hb; cases hb
    · rw [upd_ne q] at hb; exact hb

abbrev N_Family_rank_of : List Str := ["self", "lot"]
theorem sc_Family_rank_of : FnScope N_Family_rank_of ["self", "lot"] (defScope s_Family_rank_of) := ⟨rfl, rfl, rfl, by decide +kernel, rfl, by decide +kernel, by decide +kernel⟩
/-- rank_of, whatever the world reckons it by: hcf is how the world's count_free is reached -/
theorem rank_read {R : Reg} {H : Hp} {p q0 t : Addr} {nm A : List Str} {r : List Str → Nat} {Q : VK} (T : Txt K mg) (wi : WInv R H) (hF : FamO K R H p q0 nm r) (ht : H t = some (.tup (A.map V.str))) (hA : Lot nm A) (q : ∀ H', Kp R H H' → Q (.int (r A)) H')
    {C : Addr} {sp : Sp} (hcf : ∃ dx fs, H q0 = some (.ins C dx fs) ∧ fs.lookup ("count_free" : Str) = none ∧ ∀ Q' : VK, (∀ H', Kp R H H' → Q' (.int (r A)) H') → sp [.ref q0, .ref t] H Q' E0) :
    tSeq (tIfS (tB (tDNotIn (tVar 1) (tFld K (tVar 0) "counted"))) (sDPut (tFld K (tVar 0) "counted") (tVar 1) (tMeth C "count_free" sp [] E0 (tFld K (tVar 0) "source") (tCons (tVar 1) tNil))) tNext) (tRet (tDGet (tFld K (tVar 0) "counted") (tVar 1)))
      { nx := fun _ H' => Q .non H', rt := Q } (start N_Family_rank_of [.ref p, .ref t]) H := by
  obtain ⟨⟨dx, a, d, h1, h2, h3⟩, ss, l8, _, _⟩ := hF
  obtain ⟨kvs, hd, m⟩ := wi d nm r h3
  have ek : H t = some (.tup ((A.map (Sum.inr : Str → Key)).map kV)) := by rw [kV_strs]; exact ht
  refine ⟨_, rfl, _, rfl, p, _, dx, _, _, rfl, h1, T.c_Family, T.n_Family_counted, rfl, d, _, rfl, DGet.t hd ek, _, rfl, ?_⟩
  cases e : valV kvs (A.map (Sum.inr : Str → Key)) with
  | some v =>
    refine iteF ⟨_, rfl, p, _, dx, _, _, rfl, h1, T.c_Family, T.n_Family_counted, rfl, _, rfl, d, v, rfl, e ▸ DGet.t hd ek, ?_⟩
    rw [m.get e]
    exact q H (Kp.refl wi)
  | none =>
    obtain ⟨dq, fq, hq0, hlk, hsp⟩ := hcf
    refine iteT ⟨_, rfl, p, _, dx, _, _, rfl, h1, T.c_Family, T.n_Family_source, rfl, q0, dq, fq, rfl, hq0, hlk, _, rfl, hsp _ fun H1 k => ?_⟩
    obtain ⟨kv1, hd1, m1⟩ := k.w d nm r h3
    have ek1 := k.at ek
    have l1 : kv1.length < sizeLine := Nat.lt_of_le_of_lt (m1.len l8) (by decide)
    refine ⟨_, rfl, p, _, dx, _, _, rfl, k.at h1, T.c_Family, T.n_Family_counted, rfl, _, rfl, d, _, rfl, DPut.t (k := A.map Sum.inr) hd1 ek1 l1, ?_⟩
    have k2 := k.trans (Kp.memo k.w h3 hd1 m1 hA)
    refine ⟨_, rfl, p, _, dx, _, _, rfl, k2.at h1, T.c_Family, T.n_Family_counted, rfl, _, rfl, d, .int (r A), rfl, ?_, q _ k2⟩
    have := DGet.t (k := A.map Sum.inr) (kvs := putK kv1 (A.map Sum.inr) (.int (r A))) (H := upd H1 d (.dT (putK kv1 (A.map Sum.inr) (.int (r A))))) upd_same (k2.at ek)
    rw [valV_put, if_pos rfl] at this
    exact this
def spRankB (K : PySem.W.Frag) : Sp := fun vs H Q _ => ∃ (R : Reg) (p t : Addr) (nm A : List Str) (r : List Str → Nat), vs = [.ref p, .ref t] ∧ WInv R H ∧ FamB K R H p nm r ∧ H t = some (.tup (A.map V.str)) ∧ Lot nm A ∧ ∀ H', Kp R H H' → Q (.int (r A)) H'
theorem lot_le {nm A : List Str} (n : SS nm) (h : Lot nm A) : A.length ≤ nm.length := Bf.nodup_le (h.ss n).nodup fun x hx => h.sub hx
theorem c_rank_b (T : Txt K mg) : CallM P w K mg base 4 "Family" "rank_of" ["self", "lot"] (spRankB K) := by
  obtain ⟨fw, F_cw, b_cw⟩ := (c_Web_count_free (P := P) (w := w) (base := base) T).ex
  obtain ⟨fc, F_cc, b_cc⟩ := (c_CountsWorld_count_free (P := P) (w := w) (base := base) T).ex
  refine mkMeth T.m_Family_rank_of sc_Family_rank_of (fun _ _ _ _ _ _ us hl => match us, hl with | [_, _], _ => rfl) (fun vs H Q E h => ?_) (fun cdv A outer s H vs Q E hr h => ?_)
  · obtain ⟨R, p, t, nm, A, r, rfl, _⟩ := h; rfl
  · obtain ⟨R, p, t, nm, As, r, rfl, wi, hF, ht, hA, q⟩ := h
    have hu := hu_of hr
    obtain ⟨q0, hO, hB⟩ := hF.src
    cases hB with
    | @web pl en hW he =>
      obtain ⟨dq, kn, de, kv, h1, _⟩ := hW.ob
      refine ⟨_, (pss_cons (ps_if (pt_cmp (pc_dnotin hu (pv 1) (pe_fld (pv 0) rfl))) (pss_one (ps_dput hu (pe_fld (pv 0) rfl) (pv 1) (pe_meth (pe_fld (pv 0) rfl) T.c_Web T.h_Web_count_free F_cw (hr.mono (by decide)) b_cw .nil pass0 (pa_cons (pv 1) pa_nil)) rfl)) pss_nil)
      (pss_one (ps_ret (pe_dget hu (pe_fld (pv 0) rfl) (pv 1) (fun _ _ => rfl))))), ?_⟩
      exact rank_read T wi hO ht hA q ⟨dq, _, h1, rfl, fun Q' q' => ⟨R, q0, t, pl, nm, en, As, rfl, wi, hW, ht, fun x hx => hA.sub hx, fun H1 k => by rw [he As hA]; exact q' H1 k⟩⟩
    | @cnt dq c kn rooms h1 hC he =>
      refine ⟨_, (pss_cons (ps_if (pt_cmp (pc_dnotin hu (pv 1) (pe_fld (pv 0) rfl))) (pss_one (ps_dput hu (pe_fld (pv 0) rfl) (pv 1) (pe_meth (pe_fld (pv 0) rfl) T.c_CountsWorld T.h_CountsWorld_count_free F_cc (hr.mono (by decide)) b_cc .nil pass0 (pa_cons (pv 1) pa_nil)) rfl)) pss_nil)
      (pss_one (ps_ret (pe_dget hu (pe_fld (pv 0) rfl) (pv 1) (fun _ _ => rfl))))), ?_⟩
      exact rank_read T wi hO ht hA q ⟨dq, _, h1, rfl, fun Q' q' => ⟨R, q0, t, c, dq, kn, rooms, As, rfl, wi, h1, hC, ht, Nat.le_trans (lot_le hO.ss hA) (Nat.le_trans hO.l8 (by decide)), fun H1 k => by rw [he As hA]; exact q' H1 k⟩⟩
/-! ### drawn -/
def spDrawnCount (K : PySem.W.Frag) : Sp := fun vs H Q _ => ∃ (R : Reg) (q t dx p' u : Addr) (nm' A L : List Str) (r' : List Str → Nat), vs = [.ref q, .ref t] ∧ WInv R H ∧ H q = some (.ins (He.ga K "Drawn") dx [("inner", .ref p'), ("lot", .ref u)]) ∧
  H u = some (.tup (L.map V.str)) ∧ FamB K R H p' nm' r' ∧ Lot nm' L ∧ H t = some (.tup (A.map V.str)) ∧ A.Nodup ∧ (∀ x, x ∈ A → x ∈ nm' ∧ x ∉ L) ∧ ∀ H', Kp R H H' → Q (.int (drwRk r' L A)) H'
abbrev N_Drawn_count_free : List Str := ["self", "lot"]
theorem sc_Drawn_count_free : FnScope N_Drawn_count_free ["self", "lot"] (defScope s_Drawn_count_free) := ⟨rfl, rfl, rfl, by decide +kernel, rfl, by decide +kernel, by decide +kernel⟩
theorem c_Drawn_count_free (T : Txt K mg) : CallM P w K mg base 5 "Drawn" "count_free" ["self", "lot"] (spDrawnCount K) := by
  obtain ⟨fr, F_cr, b_cr⟩ := (c_rank_b (P := P) (w := w) (base := base) T).ex
  refine mkMeth T.m_Drawn_count_free sc_Drawn_count_free (fun _ _ _ _ _ _ us hl => match us, hl with | [_, _], _ => rfl) (fun vs H Q E h => ?_) (fun cdv A outer s H vs Q E hr h => ?_)
  · obtain ⟨R, q, t, dx, p', u, nm', A, L, r', rfl, _⟩ := h; rfl
  · obtain ⟨R, o, t, dx, p', u, nm', As, L, r', rfl, wi, h1, hu1, hF, hL, ht, nd, sub, q⟩ := h
    obtain ⟨q0, hO, hB⟩ := hF.src
    obtain ⟨⟨dp, a, d, g1, g2, g3⟩, ss, l8, rk, _⟩ := id hO
    have nL := (hL.ss ss).nodup
    have ndA : (As ++ L).Nodup := List.nodup_append.mpr ⟨nd, nL, fun x hx y hy e => (sub x hx).2 (e ▸ hy)⟩
    have lAL : (As ++ L).length ≤ 8 := Nat.le_trans (Bf.nodup_le ndA fun x hx => by
      rcases List.mem_append.mp hx with z | z
      · exact (sub x z).1
      · exact hL.sub z) l8
    have hLot : Lot nm' (srt (As ++ L)) := lot_of ss (srt_ss ndA) fun x hx => by
      rcases List.mem_append.mp (mem_srt.mp hx) with z | z
      · exact (sub x z).1
      · exact hL.sub z
    refine ⟨_, (pss_one (ps_ret (pe_op op_sub (pe_meth (pe_fld (pv 0) rfl) T.c_Family T.h_Family_rank_of F_cr (hr.mono (by decide)) b_cr .nil pass0 (pa_cons (pe_callTy call_tuple_of (by rfl) T.f_tuple bt_tuple (pa_cons (pe_callB cr_sortedS (by rfl) T.f_sorted bt_sorted (pa_cons (pe_lst (StX.pa_star (pv 1) (StX.pa_star (pe_fld (pv 0) rfl) pa_nil))) pa_nil)) pa_nil)) pa_nil)) (pe_meth (pe_fld (pv 0) rfl) T.c_Family T.h_Family_rank_of F_cr (hr.mono (by decide)) b_cr .nil pass0 (pa_cons (pe_fld (pv 0) rfl) pa_nil))))), ?_⟩
    refine ⟨_, rfl, o, _, dx, _, _, rfl, h1, T.c_Drawn, T.n_Drawn_inner, rfl, p', dp, _, rfl, g1, rfl, ?_⟩
    refine ⟨_, rfl, t, _, rfl, .inl (SqT.of ht), _, rfl, o, _, dx, _, _, rfl, h1, T.c_Drawn, T.n_Drawn_lot, rfl, u, _, rfl, .inl (SqT.of hu1), ?_, fun l nl => ?_⟩
    · rw [List.append_nil, ← List.map_append, List.length_map]; exact Nat.le_trans lAL (by decide)
    have k1 := Kp.upd wi nl (o := .lst (As.map V.str ++ (L.map V.str ++ [])))
    refine ⟨l, As ++ L, rfl, SqL.of (by rw [upd_same, List.append_nil, List.map_append]), by omega, fun ys p hp hs np => ?_⟩
    rw [sorted_is hp hs]
    have k2 := k1.new np (o := .lst ((srt (As ++ L)).map V.str))
    refine ⟨p, _, rfl, .inl ⟨SqL.of upd_same, fun t2 nt2 => ?_⟩⟩
    have k3 := k2.new nt2 (o := .tup ((srt (As ++ L)).map V.str))
    refine ⟨R, p', t2, nm', _, r', rfl, k3.w, hF.mono k3, upd_same, hLot, fun H4 k4 => ?_⟩
    have k5 := k3.trans k4
    refine ⟨_, rfl, o, _, dx, _, _, rfl, k5.at h1, T.c_Drawn, T.n_Drawn_inner, rfl, p', dp, _, rfl, k5.at g1, rfl, ?_⟩
    refine ⟨_, rfl, o, _, dx, _, _, rfl, k5.at h1, T.c_Drawn, T.n_Drawn_lot, rfl, R, p', u, nm', L, r', rfl, k5.w, hF.mono k5, k5.at hu1, hL, fun H6 k6 => ?_⟩
    refine ⟨_, _, rfl, rfl, ?_⟩
    have e : (r' (srt (As ++ L)) : Int) - (r' L : Int) = (drwRk r' L As : Int) := by
      have rle : r' L ≤ r' (As ++ L) := rk.app_ge As L
      rw [rk.ext (srt (As ++ L)) (As ++ L) fun x => mem_srt]; unfold drwRk; omega
    show Q (.int ((r' (srt (As ++ L)) : Int) - (r' L : Int))) H6
    rw [e]
    exact q H6 (k5.trans k6)
/-! ### all families -/
def spRank (K : PySem.W.Frag) : Sp := fun vs H Q _ => ∃ (R : Reg) (p t : Addr) (nm A : List Str) (r : List Str → Nat), vs = [.ref p, .ref t] ∧ WInv R H ∧ FamS K R H p nm r ∧ H t = some (.tup (A.map V.str)) ∧ Lot nm A ∧ ∀ H', Kp R H H' → Q (.int (r A)) H'
theorem c_rank_of (T : Txt K mg) : CallM P w K mg base 6 "Family" "rank_of" ["self", "lot"] (spRank K) := by
  obtain ⟨fw, F_cw, b_cw⟩ := (c_Web_count_free (P := P) (w := w) (base := base) T).ex
  obtain ⟨fc, F_cc, b_cc⟩ := (c_CountsWorld_count_free (P := P) (w := w) (base := base) T).ex
  obtain ⟨fd, F_cd, b_cd⟩ := (c_Drawn_count_free (P := P) (w := w) (base := base) T).ex
  refine mkMeth T.m_Family_rank_of sc_Family_rank_of (fun _ _ _ _ _ _ us hl => match us, hl with | [_, _], _ => rfl) (fun vs H Q E h => ?_) (fun cdv A outer s H vs Q E hr h => ?_)
  · obtain ⟨R, p, t, nm, A, r, rfl, _⟩ := h; rfl
  · obtain ⟨R, p, t, nm, As, r, rfl, wi, hF, ht, hA, q⟩ := h
    have hu := hu_of hr
    obtain ⟨q0, hO, hB | ⟨dq, p', t', nm', r', L, h1, h2, hF', hL, en, er⟩⟩ := hF.src
    · cases hB with
      | @web pl en hW he =>
        obtain ⟨dq, kn, de, kv, h1, _⟩ := hW.ob
        refine ⟨_, (pss_cons (ps_if (pt_cmp (pc_dnotin hu (pv 1) (pe_fld (pv 0) rfl))) (pss_one (ps_dput hu (pe_fld (pv 0) rfl) (pv 1) (pe_meth (pe_fld (pv 0) rfl) T.c_Web T.h_Web_count_free F_cw (hr.mono (by decide)) b_cw .nil pass0 (pa_cons (pv 1) pa_nil)) rfl)) pss_nil)
      (pss_one (ps_ret (pe_dget hu (pe_fld (pv 0) rfl) (pv 1) (fun _ _ => rfl))))), ?_⟩
        exact rank_read T wi hO ht hA q ⟨dq, _, h1, rfl, fun Q' q' => ⟨R, q0, t, pl, nm, en, As, rfl, wi, hW, ht, fun x hx => hA.sub hx, fun H1 k => by rw [he As hA]; exact q' H1 k⟩⟩
      | @cnt dq c kn rooms h1 hC he =>
        refine ⟨_, (pss_cons (ps_if (pt_cmp (pc_dnotin hu (pv 1) (pe_fld (pv 0) rfl))) (pss_one (ps_dput hu (pe_fld (pv 0) rfl) (pv 1) (pe_meth (pe_fld (pv 0) rfl) T.c_CountsWorld T.h_CountsWorld_count_free F_cc (hr.mono (by decide)) b_cc .nil pass0 (pa_cons (pv 1) pa_nil)) rfl)) pss_nil)
      (pss_one (ps_ret (pe_dget hu (pe_fld (pv 0) rfl) (pv 1) (fun _ _ => rfl))))), ?_⟩
        exact rank_read T wi hO ht hA q ⟨dq, _, h1, rfl, fun Q' q' => ⟨R, q0, t, c, dq, kn, rooms, As, rfl, wi, h1, hC, ht, Nat.le_trans (lot_le hO.ss hA) (Nat.le_trans hO.l8 (by decide)), fun H1 k => by rw [he As hA]; exact q' H1 k⟩⟩
    · subst er
      refine ⟨_, (pss_cons (ps_if (pt_cmp (pc_dnotin hu (pv 1) (pe_fld (pv 0) rfl))) (pss_one (ps_dput hu (pe_fld (pv 0) rfl) (pv 1) (pe_meth (pe_fld (pv 0) rfl) T.c_Drawn T.h_Drawn_count_free F_cd (hr.mono (by decide)) b_cd .nil pass0 (pa_cons (pv 1) pa_nil)) rfl)) pss_nil)
      (pss_one (ps_ret (pe_dget hu (pe_fld (pv 0) rfl) (pv 1) (fun _ _ => rfl))))), ?_⟩
      exact rank_read T wi hO ht hA q ⟨dq, _, h1, rfl, fun Q' q' => ⟨R, q0, t, dq, p', t', nm', As, L, r', rfl, wi, h1, h2, hF', hL, ht, (hA.ss hO.ss).nodup, fun x hx => en x (hA.sub hx), q'⟩⟩
end
end Bw
set_option Elab.async false
set_option maxHeartbeats 4000000
set_option linter.all false
/-! exchanges along a shortest way; weights -/
namespace Bf
variable {α : Type} [DecidableEq α]

/-! ### sums of weights -/
def wt (w : α → Int) (A : List α) : Int := (A.map w).sum
theorem wt_nil (w : α → Int) : wt w [] = 0 := rfl
theorem wt_cons (w : α → Int) (a : α) (A : List α) : wt w (a :: A) = w a + wt w A := by simp [wt]
theorem wt_app (w : α → Int) (A B : List α) : wt w (A ++ B) = wt w A + wt w B := by simp [wt]
theorem wt_rem {w : α → Int} {A : List α} (h : A.Nodup) {y : α} (hy : y ∈ A) : wt w (rem A [y]) + w y = wt w A := by
  induction A with
  | nil => cases hy
  | cons a A ih =>
    rw [List.nodup_cons] at h
    by_cases e : a = y
    · subst e
      have : rem (a :: A) [a] = A := by
        unfold rem
        rw [List.filter_cons_of_neg (by simp)]
        exact List.filter_eq_self.mpr fun x hx => by
          have : x ≠ a := fun q => h.1 (q ▸ hx)
          simp [this]
      rw [this, wt_cons]; omega
    · have hy' : y ∈ A := by
        rcases List.mem_cons.mp hy with q | q
        · exact absurd q.symm e
        · exact q
      have : rem (a :: A) [y] = a :: rem A [y] := by
        unfold rem
        rw [List.filter_cons_of_pos (by simp [e])]
      rw [this, wt_cons, wt_cons]
      have := ih h.2 hy'
      omega
theorem wt_ext {w : α → Int} {A B : List α} (ha : A.Nodup) (hb : B.Nodup) (s : ∀ x, x ∈ A ↔ x ∈ B) : wt w A = wt w B := by
  induction A generalizing B with
  | nil =>
    cases B with
    | nil => rfl
    | cons b B => exact absurd ((s b).mpr List.mem_cons_self) (by simp)
  | cons a A ih =>
    rw [List.nodup_cons] at ha
    have h1 := wt_rem (w := w) hb ((s a).mp List.mem_cons_self)
    have h2 := ih ha.2 (B := rem B [a]) (rem_nodup hb) fun x => by
      rw [mem_rem, ← s x, List.mem_cons, List.mem_singleton]
      constructor
      · intro q
        exact ⟨Or.inr q, fun e => ha.1 (e ▸ q)⟩
      · rintro ⟨q | q, ne⟩
        · exact absurd q ne
        · exact q
    rw [wt_cons]
    omega
theorem wt_add (w v : α → Int) (A : List α) : wt (fun x => w x + v x) A = wt w A + wt v A := by
  induction A with
  | nil => rfl
  | cons a A ih => rw [wt_cons, wt_cons, wt_cons, ih]; omega
theorem wt_congr {w v : α → Int} {A : List α} (h : ∀ x, x ∈ A → w x = v x) : wt w A = wt v A := by
  unfold wt
  rw [List.map_congr_left h]
theorem rem_len {I Y : List α} (hI : I.Nodup) (hY : Y.Nodup) (s : ∀ y, y ∈ Y → y ∈ I) : (rem I Y).length + Y.length = I.length := by
  have : (rem I Y ++ Y).length = I.length := by
    refine nodup_len_eq ?_ hI fun x => ?_
    · rw [List.nodup_append]
      exact ⟨rem_nodup hI, hY, fun x hx y hy e => (mem_rem.mp hx).2 (e ▸ hy)⟩
    · rw [List.mem_append, mem_rem]
      constructor
      · rintro (q | q)
        · exact q.1
        · exact s x q
      · intro q
        by_cases hx : x ∈ Y
        · exact Or.inr hx
        · exact Or.inl ⟨q, hx⟩
  rw [List.length_append] at this
  exact this
theorem wt_rems {w : α → Int} {I Y : List α} (hI : I.Nodup) (hY : Y.Nodup) (s : ∀ y, y ∈ Y → y ∈ I) : wt w (rem I Y) + wt w Y = wt w I := by
  have : wt w (rem I Y ++ Y) = wt w I := by
    refine wt_ext ?_ hI fun x => ?_
    · rw [List.nodup_append]
      exact ⟨rem_nodup hI, hY, fun x hx y hy e => (mem_rem.mp hx).2 (e ▸ hy)⟩
    · rw [List.mem_append, mem_rem]
      constructor
      · rintro (q | q)
        · exact q.1
        · exact s x q
      · intro q
        by_cases hx : x ∈ Y
        · exact Or.inr hx
        · exact Or.inl ⟨q, hx⟩
  rw [wt_app] at this
  exact this

/-! ### no single exchange helps: the heaviest of its size -/
def Loc (w : α → Int) (r : List α → Nat) (E I : List α) : Prop := ∀ y, y ∈ I → ∀ x, x ∈ E → x ∉ I → Ex r I y x → w x ≤ w y
section
variable {r : List α → Nat} (R : IsRk r)
include R
theorem loc_glob {w : α → Int} {E I : List α} (hI : Ind r I) (sI : ∀ x, x ∈ I → x ∈ E) (h : Loc w r E I) : ∀ (n : Nat) (L : List α), (rem L I).length ≤ n → Ind r L → L.length = I.length → (∀ x, x ∈ L → x ∈ E) → wt w L ≤ wt w I := by
  intro n
  induction n with
  | zero =>
    intro L hn hL l s
    have e : ∀ x, x ∈ L → x ∈ I := fun x hx => by
      apply Classical.byContradiction
      intro q
      have := List.length_pos_of_mem (mem_rem.mpr ⟨hx, q⟩)
      omega
    have := wt_ext (w := w) (hL.nodup R) (hI.nodup R) fun x => ⟨e x, nodup_full (hL.nodup R) e (by omega) x⟩
    omega
  | succ n ih =>
    intro L hn hL l s
    by_cases h0 : (rem L I).length = 0
    · exact ih L (by omega) hL l s
    obtain ⟨x, hx⟩ := List.exists_mem_of_length_pos (show 0 < (rem L I).length by omega)
    have hx' := mem_rem.mp hx
    obtain ⟨y, hy, hyn, e1, e2⟩ := sym_ex R hI hL l.symm hx'.1 hx'.2
    have ndL := hL.nodup R
    have l1 := rem_len_mem ndL hx'.1
    have w1 := wt_rem (w := w) ndL hx'.1
    have hw := h y hy x (s x hx'.1) hx'.2 e1
    have sub : ∀ z, z ∈ rem (y :: rem L [x]) I → z ∈ rem (rem L I) [x] := fun z hz => by
      rw [mem_rem] at hz
      rcases List.mem_cons.mp hz.1 with q | q
      · exact absurd (q ▸ hy) hz.2
      · rw [mem_rem] at q
        exact mem_rem.mpr ⟨mem_rem.mpr ⟨q.1, hz.2⟩, q.2⟩
    have l2 := nodup_le (rem_nodup (S := I) (e2.nodup R)) sub
    have l3 := rem_len_mem (rem_nodup (S := I) ndL) hx
    have key := ih (y :: rem L [x]) (by omega) e2 (by rw [List.length_cons]; omega) fun z hz => by
      rcases List.mem_cons.mp hz with q | q
      · exact q ▸ sI y hy
      · exact s z (mem_rem.mp q).1
    rw [wt_cons] at key
    omega
theorem loc_best {w : α → Int} {E I : List α} (hI : Ind r I) (sI : ∀ x, x ∈ I → x ∈ E) (h : Loc w r E I) (L : List α) (hL : Ind r L) (l : L.length = I.length) (s : ∀ x, x ∈ L → x ∈ E) : wt w L ≤ wt w I :=
  loc_glob R hI sI h _ L (Nat.le_refl _) hL l s
theorem glob_loc {w : α → Int} {E I : List α} (hI : Ind r I) (sI : ∀ x, x ∈ I → x ∈ E) (h : ∀ L : List α, Ind r L → L.length = I.length → (∀ x, x ∈ L → x ∈ E) → wt w L ≤ wt w I) : Loc w r E I := fun y hy x hx hxi ex => by
  have nd := hI.nodup R
  have l1 := rem_len_mem nd hy
  have w1 := wt_rem (w := w) nd hy
  have := h (x :: rem I [y]) ex (by rw [List.length_cons]; omega) fun z hz => by
    rcases List.mem_cons.mp hz with q | q
    · exact q ▸ hx
    · exact sI z (mem_rem.mp q).1
  rw [wt_cons] at this
  omega
end

/-! ### labels: a cost and a number of things, in the order of tuples -/
def kle (a b : Int × Int) : Prop := a.1 < b.1 ∨ (a.1 = b.1 ∧ a.2 ≤ b.2)
theorem kle_refl (a : Int × Int) : kle a a := Or.inr ⟨rfl, Int.le_refl _⟩
theorem kle_trans {a b c : Int × Int} (h1 : kle a b) (h2 : kle b c) : kle a c := by
  unfold kle at *; omega
theorem kle_total (a b : Int × Int) : kle a b ∨ kle b a := by
  unfold kle; omega
theorem kle_anti {a b : Int × Int} (h1 : kle a b) (h2 : kle b a) : a = b := by
  have : a.1 = b.1 ∧ a.2 = b.2 := by unfold kle at *; omega
  exact Prod.ext this.1 this.2
theorem kmax {β : Type} (κ : β → Int × Int) : ∀ (B : List β), B ≠ [] → ∃ p, p ∈ B ∧ ∀ q, q ∈ B → kle (κ q) (κ p)
  | [], h => absurd rfl h
  | [b], _ => ⟨b, List.mem_cons_self, fun q hq => by
      rcases List.mem_cons.mp hq with e | e
      · exact e ▸ kle_refl _
      · cases e⟩
  | b :: c :: B, _ => by
    obtain ⟨p, hp, hm⟩ := kmax κ (c :: B) (by simp)
    rcases kle_total (κ b) (κ p) with h | h
    · exact ⟨p, List.mem_cons_of_mem _ hp, fun q hq => by
        rcases List.mem_cons.mp hq with e | e
        · exact e ▸ h
        · exact hm q e⟩
    · exact ⟨b, List.mem_cons_self, fun q hq => by
        rcases List.mem_cons.mp hq with e | e
        · exact e ▸ kle_refl _
        · exact kle_trans (hm q e) h⟩

/-! ### many exchanges at once -/
section
variable {r : List α → Nat} (R : IsRk r)
include R
theorem swap_cl {I : List α} (hI : Ind r I) {P : List (α × α)} {κ : α → Int × Int} (hcl : ∀ p, p ∈ P → Cl r I p.2) (hex : ∀ p, p ∈ P → ¬ Cl r (rem I [p.1]) p.2)
    (hord : ∀ p, p ∈ P → ∀ q, q ∈ P → ¬ Cl r (rem I [p.1]) q.2 → kle (κ q.1) (κ p.1)) (hinj : ∀ p, p ∈ P → ∀ q, q ∈ P → κ p.1 = κ q.1 → p = q) :
    ∀ z, z ∈ I → Cl r (rem I (P.map (·.1)) ++ P.map (·.2)) z := by
  let J := rem I (P.map (·.1)) ++ P.map (·.2)
  have key : ∀ p, p ∈ P → Cl r J p.1 := by
    apply Classical.byContradiction
    intro no
    let Bad := P.filter fun p => decide (¬ (r (p.1 :: J) = r J))
    have hb : ∀ p, p ∈ Bad ↔ p ∈ P ∧ ¬ Cl r J p.1 := fun p => by
      show p ∈ P.filter _ ↔ _
      rw [List.mem_filter]
      exact and_congr_right fun _ => by
        rw [decide_eq_true_iff]; exact Iff.rfl
    have ne : Bad ≠ [] := fun e => no fun p hp => by
      apply Classical.byContradiction
      intro q
      have := (hb p).mpr ⟨hp, q⟩
      rw [e] at this
      cases this
    obtain ⟨p, hp, hmax⟩ := kmax (fun p : α × α => κ p.1) Bad ne
    obtain ⟨hpP, hpn⟩ := (hb p).mp hp
    let Lo := P.filter fun q => decide ((κ q.1).1 < (κ p.1).1 ∨ ((κ q.1).1 = (κ p.1).1 ∧ (κ q.1).2 ≤ (κ p.1).2))
    have hlo : ∀ q, q ∈ Lo ↔ q ∈ P ∧ kle (κ q.1) (κ p.1) := fun q => by
      show q ∈ P.filter _ ↔ _
      rw [List.mem_filter, decide_eq_true_iff]
      exact Iff.rfl
    let S := rem I (Lo.map (·.1))
    have c1 : ∀ z, z ∈ S → Cl r J z := fun z hz => by
      obtain ⟨hzI, hzn⟩ := mem_rem.mp hz
      by_cases hy : z ∈ P.map (·.1)
      · obtain ⟨q, hq, rfl⟩ := List.mem_map.mp hy
        apply Classical.byContradiction
        intro w
        exact hzn (List.mem_map.mpr ⟨q, (hlo q).mpr ⟨hq, hmax q ((hb q).mpr ⟨hq, w⟩)⟩, rfl⟩)
      · exact Cl.of_mem R (List.mem_append.mpr (Or.inl (mem_rem.mpr ⟨hzI, hy⟩)))
    let As := (Lo.filter fun q => decide (q ≠ p)).map (·.1)
    have c2 : ∀ a, a ∈ As → Cl r (rem I [a]) p.2 := fun a ha => by
      obtain ⟨q, hq, rfl⟩ := List.mem_map.mp ha
      obtain ⟨hq1, hq2⟩ := List.mem_filter.mp hq
      obtain ⟨hqP, hle⟩ := (hlo q).mp hq1
      apply Classical.byContradiction
      intro w
      have h2 := hord q hqP p hpP w
      exact of_decide_eq_true hq2 (hinj q hqP p hpP (kle_anti hle h2))
    have c3 := cl_rem R hI (hcl p hpP) As c2
    have c4 : Cl r (p.1 :: S) p.2 := c3.mono R fun z hz => by
      obtain ⟨hzI, hzn⟩ := mem_rem.mp hz
      by_cases e : z = p.1
      · exact List.mem_cons.mpr (Or.inl e)
      · refine List.mem_cons.mpr (Or.inr (mem_rem.mpr ⟨hzI, fun w => ?_⟩))
        obtain ⟨q, hq, rfl⟩ := List.mem_map.mp w
        exact hzn (List.mem_map.mpr ⟨q, List.mem_filter.mpr ⟨hq, decide_eq_true fun w2 => e (w2 ▸ rfl)⟩, rfl⟩)
    have c5 : ¬ Cl r S p.2 := fun w => hex p hpP (w.mono R fun z hz => by
      obtain ⟨hzI, hzn⟩ := mem_rem.mp hz
      refine mem_rem.mpr ⟨hzI, fun w2 => hzn ?_⟩
      have : z = p.1 := by simpa using w2
      rw [this]
      exact List.mem_map.mpr ⟨p, (hlo p).mpr ⟨hpP, kle_refl _⟩, rfl⟩)
    have e1 := R.not_cl c5
    have e2 : r (p.2 :: p.1 :: S) = r (p.1 :: S) := c4
    have e3 := R.le1 p.1 S
    have e4 := R.swap p.1 p.2 S
    have e5 := R.ge p.1 (p.2 :: S)
    have c6 : Cl r (p.2 :: S) p.1 := by
      show r (p.1 :: p.2 :: S) = r (p.2 :: S)
      omega
    exact hpn (Cl.trans R (fun z hz => by
      rcases List.mem_cons.mp hz with e | e
      · rw [e]
        exact Cl.of_mem R (List.mem_append.mpr (Or.inr (List.mem_map.mpr ⟨p, hpP, rfl⟩)))
      · exact c1 z e) c6)
  intro z hz
  by_cases hy : z ∈ P.map (·.1)
  · obtain ⟨q, hq, rfl⟩ := List.mem_map.mp hy
    exact key q hq
  · exact Cl.of_mem R (List.mem_append.mpr (Or.inl (mem_rem.mpr ⟨hz, hy⟩)))

/-- the exchanges, and one thing more -/
theorem swap_ind {I : List α} (hI : Ind r I) {P : List (α × α)} {x0 : α} {κ : α → Int × Int} (h0 : Ind r (x0 :: I)) (hy : ∀ p, p ∈ P → p.1 ∈ I) (nd : (P.map (·.1)).Nodup)
    (hcl : ∀ p, p ∈ P → Cl r I p.2) (hex : ∀ p, p ∈ P → ¬ Cl r (rem I [p.1]) p.2)
    (hord : ∀ p, p ∈ P → ∀ q, q ∈ P → ¬ Cl r (rem I [p.1]) q.2 → kle (κ q.1) (κ p.1)) (hinj : ∀ p, p ∈ P → ∀ q, q ∈ P → κ p.1 = κ q.1 → p = q) :
    Ind r (x0 :: (rem I (P.map (·.1)) ++ P.map (·.2))) := by
  have c := swap_cl R hI hcl hex hord hinj
  have e1 : r (x0 :: I) ≤ r (x0 :: (rem I (P.map (·.1)) ++ P.map (·.2))) := R.le_cl fun z hz => by
    rcases List.mem_cons.mp hz with e | e
    · exact Cl.of_mem R (List.mem_cons.mpr (Or.inl e))
    · exact (c z e).cons R x0
  have e2 := R.le_len (x0 :: (rem I (P.map (·.1)) ++ P.map (·.2)))
  have e3 := rem_len (hI.nodup R) nd fun y hy' => by
    obtain ⟨p, hp, rfl⟩ := List.mem_map.mp hy'
    exact hy p hp
  have e4 : r (x0 :: I) = I.length + 1 := h0
  simp only [List.length_cons, List.length_append, List.length_map] at e2 e3 ⊢
  show r _ = _
  simp only [List.length_cons, List.length_append, List.length_map]
  omega
end

/-! ### the graph of exchanges, its labels, a shortest way -/
structure Lab (r1 r2 : List α → Nat) (E I : List α) (w : α → Int) (re : α → Prop) (L : α → Int × Int) : Prop where
  src : ∀ x, x ∈ E → x ∉ I → Ind r1 (x :: I) → re x ∧ kle (L x) (- w x, 1)
  e1 : ∀ y, y ∈ I → ∀ x, x ∈ E → x ∉ I → Ex r1 I y x → re y → re x ∧ kle (L x) ((L y).1 - w x, (L y).2 + 1)
  e2 : ∀ x, x ∈ E → x ∉ I → ∀ y, y ∈ I → Ex r2 I y x → re x → re y ∧ kle (L y) ((L x).1 + w y, (L x).2 + 1)

/-- a way from x0 to x; its steps (the thing ahead, the thing of I, the thing behind) -/
inductive Pth (r1 r2 : List α → Nat) (E I : List α) (w : α → Int) (L : α → Int × Int) (x0 : α) : α → List (α × α × α) → Prop
  | start : x0 ∈ E → x0 ∉ I → Ind r1 (x0 :: I) → L x0 = (- w x0, 1) → Pth r1 r2 E I w L x0 x0 []
  | step {x : α} {T : List (α × α × α)} (p : Pth r1 r2 E I w L x0 x T) (y x' : α) : y ∈ I → Ex r2 I y x → L y = ((L x).1 + w y, (L x).2 + 1) → x' ∈ E → x' ∉ I → Ex r1 I y x' →
      L x' = ((L y).1 - w x', (L y).2 + 1) → Pth r1 r2 E I w L x0 x' ((x, y, x') :: T)

section
variable {r1 r2 : List α → Nat} {E I : List α} {w : α → Int} {re : α → Prop} {L : α → Int × Int} {x0 xm : α} {T : List (α × α × α)}
theorem Pth.first (p : Pth r1 r2 E I w L x0 xm T) : x0 ∈ E ∧ x0 ∉ I ∧ Ind r1 (x0 :: I) ∧ L x0 = (- w x0, 1) := by
  induction p with
  | start a b c d => exact ⟨a, b, c, d⟩
  | step p y x' _ _ _ _ _ _ _ ih => exact ih
theorem Pth.last (p : Pth r1 r2 E I w L x0 xm T) : xm ∈ E ∧ xm ∉ I := by
  cases p with
  | start a b c d => exact ⟨a, b⟩
  | step p y x' _ _ _ a b _ _ => exact ⟨a, b⟩
/-- every step's facts; the numbers grow along the way -/
structure StepOk (r1 r2 : List α → Nat) (E I : List α) (w : α → Int) (L : α → Int × Int) (t : α × α × α) : Prop where
  y : t.2.1 ∈ I
  p : t.1 ∈ E ∧ t.1 ∉ I
  n : t.2.2 ∈ E ∧ t.2.2 ∉ I
  e2 : Ex r2 I t.2.1 t.1
  e1 : Ex r1 I t.2.1 t.2.2
  ly : L t.2.1 = ((L t.1).1 + w t.2.1, (L t.1).2 + 1)
  ln : L t.2.2 = ((L t.2.1).1 - w t.2.2, (L t.2.1).2 + 1)
theorem Pth.ok (p : Pth r1 r2 E I w L x0 xm T) : ∀ t, t ∈ T → StepOk r1 r2 E I w L t := by
  induction p with
  | start a b c d => intro t ht; cases ht
  | step p y x' a b c d e f g ih =>
    intro t ht
    rcases List.mem_cons.mp ht with q | q
    · subst q
      exact ⟨a, p.last, ⟨d, e⟩, b, f, c, g⟩
    · exact ih t q
theorem Pth.grow (p : Pth r1 r2 E I w L x0 xm T) : (1 : Int) ≤ (L xm).2 ∧ ∀ t, t ∈ T → 1 ≤ (L t.1).2 ∧ (L t.2.2).2 ≤ (L xm).2 := by
  induction p with
  | start a b c d => rw [d]; exact ⟨Int.le_refl _, fun t ht => by cases ht⟩
  | @step x T p y x' a b c d e f g ih =>
    have h1 : (L x').2 = (L x).2 + 2 := by
      rw [g]; show (L y).2 + 1 = _
      rw [c]; show (L x).2 + 1 + 1 = _
      omega
    refine ⟨by omega, fun t ht => ?_⟩
    rcases List.mem_cons.mp ht with q | q
    · subst q
      exact ⟨ih.1, Int.le_refl _⟩
    · have := ih.2 t q
      exact ⟨this.1, by omega⟩
theorem Pth.inj (p : Pth r1 r2 E I w L x0 xm T) : ∀ s, s ∈ T → ∀ t, t ∈ T → (L s.2.1).2 = (L t.2.1).2 → s = t := by
  induction p with
  | start a b c d => intro s hs; cases hs
  | @step x T p y x' a b c d e f g ih =>
    have h1 : (L y).2 = (L x).2 + 1 := by rw [c]
    have hlt : ∀ t, t ∈ T → (L t.2.1).2 < (L y).2 := fun t ht => by
      have h2 := (p.grow).2 t ht
      have h3 := (p.ok t ht).ln
      have h4 : (L t.2.2).2 = (L t.2.1).2 + 1 := by rw [h3]
      omega
    intro s hs t ht e
    rcases List.mem_cons.mp hs with q | q <;> rcases List.mem_cons.mp ht with q' | q'
    · rw [q, q']
    · rw [q] at e
      have := hlt t q'
      have : (L y).2 = (L t.2.1).2 := e
      omega
    · rw [q'] at e
      have := hlt s q
      have : (L s.2.1).2 = (L y).2 := e
      omega
    · exact ih s q t q' e
theorem Pth.ndY (p : Pth r1 r2 E I w L x0 xm T) : (T.map (·.2.1)).Nodup := by
  induction p with
  | start a b c d => exact List.nodup_nil
  | @step x T p y x' a b c d e f g ih =>
    rw [List.map_cons, List.nodup_cons]
    refine ⟨fun hm => ?_, ih⟩
    obtain ⟨t, ht, e⟩ := List.mem_map.mp hm
    have h2 := (p.grow).2 t ht
    have h3 := (p.ok t ht).ln
    have h4 : (L t.2.2).2 = (L t.2.1).2 + 1 := by rw [h3]
    have h1 : (L y).2 = (L x).2 + 1 := by rw [c]
    have e' : t.2.1 = y := e
    rw [e'] at h4
    omega
/-- the things of the way outside of I, told from its begin and from its end -/
theorem Pth.outs (p : Pth r1 r2 E I w L x0 xm T) : ∀ z, (z = x0 ∨ z ∈ T.map (·.2.2)) ↔ (z = xm ∨ z ∈ T.map (·.1)) := by
  induction p with
  | start a b c d => intro z; simp
  | @step x T p y x' a b c d e f g ih =>
    intro z
    have := ih z
    simp only [List.map_cons, List.mem_cons]
    constructor
    · rintro (h | h | h)
      · exact Or.inr ((this.mp (Or.inl h)))
      · exact Or.inl h
      · exact Or.inr (this.mp (Or.inr h))
    · rintro (h | h)
      · exact Or.inr (Or.inl h)
      · rcases this.mpr h with q | q
        · exact Or.inl q
        · exact Or.inr (Or.inr q)
theorem Pth.rea (A : Lab r1 r2 E I w re L) (p : Pth r1 r2 E I w L x0 xm T) : re xm ∧ ∀ t, t ∈ T → re t.1 ∧ re t.2.1 ∧ re t.2.2 := by
  induction p with
  | start a b c d => exact ⟨(A.src _ a b c).1, fun t ht => by cases ht⟩
  | @step x T p y x' a b c d e f g ih =>
    have h1 := (A.e2 x p.last.1 p.last.2 y a b ih.1).1
    have h2 := (A.e1 y a x' d e f h1).1
    refine ⟨h2, fun t ht => ?_⟩
    rcases List.mem_cons.mp ht with q | q
    · subst q
      exact ⟨ih.1, h1, h2⟩
    · exact ih.2 t q

/-- what becomes of I by a way -/
def flip1 (I : List α) (x0 : α) (T : List (α × α × α)) : List α := x0 :: (rem I (T.map (·.2.1)) ++ T.map (·.2.2))
def flip2 (I : List α) (xm : α) (T : List (α × α × α)) : List α := xm :: (rem I (T.map (·.2.1)) ++ T.map (·.1))
theorem Pth.flip_ext (p : Pth r1 r2 E I w L x0 xm T) : ∀ z, z ∈ flip1 I x0 T ↔ z ∈ flip2 I xm T := fun z => by
  have := p.outs z
  unfold flip1 flip2
  simp only [List.mem_cons, List.mem_append]
  constructor
  · rintro (h | h | h)
    · rcases this.mp (Or.inl h) with q | q
      · exact Or.inl q
      · exact Or.inr (Or.inr q)
    · exact Or.inr (Or.inl h)
    · rcases this.mp (Or.inr h) with q | q
      · exact Or.inl q
      · exact Or.inr (Or.inr q)
  · rintro (h | h | h)
    · rcases this.mpr (Or.inl h) with q | q
      · exact Or.inl q
      · exact Or.inr (Or.inr q)
    · exact Or.inr (Or.inl h)
    · rcases this.mpr (Or.inr h) with q | q
      · exact Or.inl q
      · exact Or.inr (Or.inr q)
theorem Pth.ind1 (R1 : IsRk r1) (hI : Ind r1 I) (A : Lab r1 r2 E I w re L) (p : Pth r1 r2 E I w L x0 xm T) : Ind r1 (flip1 I x0 T) := by
  have hf := p.first
  have key := swap_ind R1 hI (P := T.map fun t => (t.2.1, t.2.2)) (x0 := x0) (κ := L) hf.2.2.1 ?_ ?_ ?_ ?_ ?_ ?_
  · simpa [flip1, Function.comp_def] using key
  · intro q hq
    obtain ⟨t, ht, rfl⟩ := List.mem_map.mp hq
    exact (p.ok t ht).y
  · simpa [Function.comp_def] using p.ndY
  · intro q hq
    obtain ⟨t, ht, rfl⟩ := List.mem_map.mp hq
    have ok := p.ok t ht
    apply Classical.byContradiction
    intro no
    have hs := (A.src _ ok.n.1 ok.n.2 (hI.cons R1 no)).2
    have he := (A.e1 _ ok.y x0 hf.1 hf.2.1 (Ex.of_free R1 hf.2.2.1) ((p.rea A).2 t ht).2.1).2
    have h1 := (p.grow).2 t ht
    have l1 := ok.ly
    have l2 := ok.ln
    have l3 := hf.2.2.2
    have a1 : (L t.2.2).1 = (L t.2.1).1 - w t.2.2 := by rw [l2]
    have a2 : (L t.2.2).2 = (L t.2.1).2 + 1 := by rw [l2]
    have a3 : (L t.2.1).2 = (L t.1).2 + 1 := by rw [l1]
    have a4 : (L x0).1 = - w x0 := by rw [l3]
    have a5 : (L x0).2 = 1 := by rw [l3]
    unfold kle at hs he
    simp only at hs he
    omega
  · intro q hq
    obtain ⟨t, ht, rfl⟩ := List.mem_map.mp hq
    exact (p.ok t ht).e1.ncl R1
  · intro q hq q' hq' nc
    obtain ⟨t, ht, rfl⟩ := List.mem_map.mp hq
    obtain ⟨t', ht', rfl⟩ := List.mem_map.mp hq'
    have ok := p.ok t ht
    have ok' := p.ok t' ht'
    have he := (A.e1 _ ok.y _ ok'.n.1 ok'.n.2 (Ex.of R1 hI nc) ((p.rea A).2 t ht).2.1).2
    have l2 := ok'.ln
    have a1 : (L t'.2.2).1 = (L t'.2.1).1 - w t'.2.2 := by rw [l2]
    have a2 : (L t'.2.2).2 = (L t'.2.1).2 + 1 := by rw [l2]
    show kle (L t'.2.1) (L t.2.1)
    unfold kle at he ⊢
    simp only at he
    omega
  · intro q hq q' hq' e
    obtain ⟨t, ht, rfl⟩ := List.mem_map.mp hq
    obtain ⟨t', ht', rfl⟩ := List.mem_map.mp hq'
    have : t = t' := p.inj t ht t' ht' (congrArg Prod.snd e)
    rw [this]
theorem Pth.ind2 (R2 : IsRk r2) (hI : Ind r2 I) (A : Lab r1 r2 E I w re L) (p : Pth r1 r2 E I w L x0 xm T) (hm : Ind r2 (xm :: I)) (hmin : ∀ x, x ∈ E → x ∉ I → Ind r2 (x :: I) → re x → kle (L xm) (L x)) : Ind r2 (flip2 I xm T) := by
  have key := swap_ind R2 hI (P := T.map fun t => (t.2.1, t.1)) (x0 := xm) (κ := fun y => (w y - (L y).1, - (L y).2)) hm ?_ ?_ ?_ ?_ ?_ ?_
  · simpa [flip2, Function.comp_def] using key
  · intro q hq
    obtain ⟨t, ht, rfl⟩ := List.mem_map.mp hq
    exact (p.ok t ht).y
  · simpa [Function.comp_def] using p.ndY
  · intro q hq
    obtain ⟨t, ht, rfl⟩ := List.mem_map.mp hq
    have ok := p.ok t ht
    apply Classical.byContradiction
    intro no
    have hs := hmin _ ok.p.1 ok.p.2 (hI.cons R2 no) ((p.rea A).2 t ht).1
    have he := (A.e2 _ p.last.1 p.last.2 _ ok.y (Ex.of_free R2 hm) (p.rea A).1).2
    have h1 := (p.grow).2 t ht
    have l1 := ok.ly
    have l2 := ok.ln
    have a1 : (L t.2.1).1 = (L t.1).1 + w t.2.1 := by rw [l1]
    have a2 : (L t.2.2).2 = (L t.2.1).2 + 1 := by rw [l2]
    have a3 : (L t.2.1).2 = (L t.1).2 + 1 := by rw [l1]
    unfold kle at hs he
    simp only at hs he
    omega
  · intro q hq
    obtain ⟨t, ht, rfl⟩ := List.mem_map.mp hq
    exact (p.ok t ht).e2.ncl R2
  · intro q hq q' hq' nc
    obtain ⟨t, ht, rfl⟩ := List.mem_map.mp hq
    obtain ⟨t', ht', rfl⟩ := List.mem_map.mp hq'
    have ok := p.ok t ht
    have ok' := p.ok t' ht'
    have he := (A.e2 _ ok'.p.1 ok'.p.2 _ ok.y (Ex.of R2 hI nc) ((p.rea A).2 t' ht').1).2
    have l2 := ok'.ly
    have a1 : (L t'.2.1).1 = (L t'.1).1 + w t'.2.1 := by rw [l2]
    have a2 : (L t'.2.1).2 = (L t'.1).2 + 1 := by rw [l2]
    show kle (w t'.2.1 - (L t'.2.1).1, - (L t'.2.1).2) (w t.2.1 - (L t.2.1).1, - (L t.2.1).2)
    unfold kle at he ⊢
    simp only at he ⊢
    omega
  · intro q hq q' hq' e
    obtain ⟨t, ht, rfl⟩ := List.mem_map.mp hq
    obtain ⟨t', ht', rfl⟩ := List.mem_map.mp hq'
    have h2 : - (L t.2.1).2 = - (L t'.2.1).2 := congrArg Prod.snd e
    have : t = t' := p.inj t ht t' ht' (by omega)
    rw [this]
theorem Pth.flip_len (R1 : IsRk r1) (hI : Ind r1 I) (p : Pth r1 r2 E I w L x0 xm T) : (flip1 I x0 T).length = I.length + 1 := by
  have := rem_len (hI.nodup R1) p.ndY fun y hy => by
    obtain ⟨t, ht, rfl⟩ := List.mem_map.mp hy
    exact (p.ok t ht).y
  simp only [flip1, List.length_cons, List.length_append, List.length_map] at this ⊢
  omega
theorem Pth.flip_in (p : Pth r1 r2 E I w L x0 xm T) (s : ∀ x, x ∈ I → x ∈ E) : ∀ z, z ∈ flip1 I x0 T → z ∈ E := fun z hz => by
  unfold flip1 at hz
  rcases List.mem_cons.mp hz with e | e
  · exact e ▸ p.first.1
  · rcases List.mem_append.mp e with e | e
    · exact s z (mem_rem.mp e).1
    · obtain ⟨t, ht, rfl⟩ := List.mem_map.mp e
      exact (p.ok t ht).n.1
end
end Bf
set_option Elab.async false
set_option maxHeartbeats 4000000
set_option linter.all false
/-! the heaviest of each size; no way: a greatest lot; labels by rounds -/
namespace Bf
variable {α : Type} [DecidableEq α]

/-! ### a greatest lot -/
section
variable {r1 r2 : List α → Nat} (R1 : IsRk r1) (R2 : IsRk r2)
include R1 R2
theorem reach_sum {E I U : List α} (h1 : Ind r1 I) (h2 : Ind r2 I) (sI : ∀ x, x ∈ I → x ∈ E) (sU : ∀ x, x ∈ U → x ∈ E)
    (hs : ∀ x, x ∈ E → x ∉ I → Ind r1 (x :: I) → x ∈ U) (e1 : ∀ y, y ∈ I → y ∈ U → ∀ x, x ∈ E → x ∉ I → Ex r1 I y x → x ∈ U)
    (e2 : ∀ x, x ∈ E → x ∉ I → x ∈ U → ∀ y, y ∈ I → Ex r2 I y x → y ∈ U) (ht : ∀ x, x ∈ E → x ∉ I → x ∈ U → ¬ Ind r2 (x :: I)) :
    r1 (rem E U) + r2 U = I.length := by
  have nd := h1.nodup R1
  let S := I.filter fun y => decide (y ∈ U)
  have hS : ∀ z, z ∈ S ↔ z ∈ I ∧ z ∈ U := fun z => by
    show z ∈ I.filter _ ↔ _
    rw [List.mem_filter, decide_eq_true_iff]
  have a1 : r1 (rem E U) = (rem I U).length := by
    have c : ∀ z, z ∈ rem E U → Cl r1 (rem I U) z := fun z hz => by
      obtain ⟨hzE, hzU⟩ := mem_rem.mp hz
      by_cases hzI : z ∈ I
      · exact Cl.of_mem R1 (mem_rem.mpr ⟨hzI, hzU⟩)
      · have c0 : Cl r1 I z := by
          apply Classical.byContradiction
          intro q
          exact hzU (hs z hzE hzI (h1.cons R1 q))
        have c1 := cl_rem R1 h1 c0 S fun a ha => by
          apply Classical.byContradiction
          intro q
          obtain ⟨haI, haU⟩ := (hS a).mp ha
          exact hzU (e1 a haI haU z hzE hzI (Ex.of R1 h1 q))
        refine c1.ext R1 fun w => ?_
        rw [mem_rem, mem_rem, hS]
        exact ⟨fun q => ⟨q.1, fun w2 => q.2 ⟨q.1, w2⟩⟩, fun q => ⟨q.1, fun w2 => q.2 w2.2⟩⟩
    have u1 := R1.le_cl c
    have u2 : r1 (rem I U) ≤ r1 (rem E U) := R1.mono fun z hz => by
      obtain ⟨p, q⟩ := mem_rem.mp hz
      exact mem_rem.mpr ⟨sI z p, q⟩
    have u3 : r1 (rem I U) = (rem I U).length := h1.rem R1
    omega
  have a2 : r2 U = S.length := by
    have c : ∀ z, z ∈ U → Cl r2 S z := fun z hzU => by
      by_cases hzI : z ∈ I
      · exact Cl.of_mem R2 ((hS z).mpr ⟨hzI, hzU⟩)
      · have hzE := sU z hzU
        have c0 : Cl r2 I z := by
          apply Classical.byContradiction
          intro q
          exact ht z hzE hzI hzU (h2.cons R2 q)
        have c1 := cl_rem R2 h2 c0 (rem I U) fun a ha => by
          apply Classical.byContradiction
          intro q
          obtain ⟨haI, haU⟩ := mem_rem.mp ha
          exact haU (e2 z hzE hzI hzU a haI (Ex.of R2 h2 q))
        refine c1.ext R2 fun w => ?_
        rw [mem_rem, mem_rem, hS]
        constructor
        · rintro ⟨q1, q2⟩
          refine ⟨q1, ?_⟩
          apply Classical.byContradiction
          intro q3
          exact q2 ⟨q1, q3⟩
        · rintro ⟨q1, q2⟩
          exact ⟨q1, fun w2 => w2.2 q2⟩
    have u1 := R2.le_cl c
    have u2 : r2 S ≤ r2 U := R2.mono fun z hz => ((hS z).mp hz).2
    have u3 : r2 S = S.length := h2.sub R2 (nd.filter _) fun z hz => ((hS z).mp hz).1
    omega
  have l : (rem I S).length + S.length = I.length := rem_len nd (nd.filter _) fun z hz => ((hS z).mp hz).1
  have l2 : (rem I S).length = (rem I U).length := nodup_len_eq (rem_nodup nd) (rem_nodup nd) fun w => by
    rw [mem_rem, mem_rem, hS]
    exact ⟨fun q => ⟨q.1, fun w2 => q.2 ⟨q.1, w2⟩⟩, fun q => ⟨q.1, fun w2 => q.2 w2.2⟩⟩
  omega
theorem le_sum {E U J : List α} (h1 : Ind r1 J) (h2 : Ind r2 J) (sJ : ∀ x, x ∈ J → x ∈ E) : J.length ≤ r1 (rem E U) + r2 U := by
  have nd := h1.nodup R1
  let S := J.filter fun y => decide (y ∈ U)
  have hS : ∀ z, z ∈ S ↔ z ∈ J ∧ z ∈ U := fun z => by
    show z ∈ J.filter _ ↔ _
    rw [List.mem_filter, decide_eq_true_iff]
  have u1 : r1 (rem J S) ≤ r1 (rem E U) := R1.mono fun z hz => by
    obtain ⟨p, q⟩ := mem_rem.mp hz
    exact mem_rem.mpr ⟨sJ z p, fun w => q ((hS z).mpr ⟨p, w⟩)⟩
  have u2 : r2 S ≤ r2 U := R2.mono fun z hz => ((hS z).mp hz).2
  have u3 : r2 S = S.length := h2.sub R2 (nd.filter _) fun z hz => ((hS z).mp hz).1
  have u4 : r1 (rem J S) = (rem J S).length := h1.rem R1
  have l : (rem J S).length + S.length = J.length := rem_len nd (nd.filter _) fun z hz => ((hS z).mp hz).1
  omega
end

/-! ### the heaviest of its size, by two parts of the weights -/
def ExtW (r1 r2 : List α → Nat) (E : List α) (w : α → Int) (I : List α) : Prop :=
  ∃ w1 w2 : α → Int, (∀ x, w1 x + w2 x = w x) ∧ Loc w1 r1 E I ∧ Loc w2 r2 E I
theorem ext_nil {r1 r2 : List α → Nat} {E : List α} {w : α → Int} : ExtW r1 r2 E w [] :=
  ⟨w, fun _ => 0, fun x => Int.add_zero _, fun y hy => by (cases hy), fun y hy => by (cases hy)⟩
theorem wt_sum {w w1 w2 : α → Int} (h : ∀ x, w1 x + w2 x = w x) (A : List α) : wt w A = wt w1 A + wt w2 A := by
  rw [← wt_add]
  exact wt_congr fun x _ => (h x).symm
section
variable {r1 r2 : List α → Nat} (R1 : IsRk r1) (R2 : IsRk r2)
include R1 R2
theorem ext_best {E I : List α} {w : α → Int} (h1 : Ind r1 I) (h2 : Ind r2 I) (sI : ∀ x, x ∈ I → x ∈ E) (h : ExtW r1 r2 E w I) (L : List α) (l1 : Ind r1 L) (l2 : Ind r2 L) (l : L.length = I.length) (s : ∀ x, x ∈ L → x ∈ E) :
    wt w L ≤ wt w I := by
  obtain ⟨w1, w2, e, a1, a2⟩ := h
  have b1 := loc_best R1 h1 sI a1 L l1 l s
  have b2 := loc_best R2 h2 sI a2 L l2 l s
  rw [wt_sum e, wt_sum e I]
  omega
omit R1 R2 in
theorem absb (f : α → Int) : ∀ l : List α, ∃ M : Int, 0 ≤ M ∧ ∀ x, x ∈ l → - M ≤ f x ∧ f x ≤ M
  | [] => ⟨0, Int.le_refl _, fun x hx => by cases hx⟩
  | a :: l => by
    obtain ⟨M, h0, h⟩ := absb f l
    refine ⟨M + (f a).natAbs, by omega, fun x hx => ?_⟩
    rcases List.mem_cons.mp hx with e | e
    · subst e; omega
    · have := h x e; omega
omit R2 in
/-- one thing more: no lot of this size weighs more than I and the best free thing -/
theorem up_best {E I : List α} {w : α → Int} (h1 : Ind r1 I) (sI : ∀ x, x ∈ I → x ∈ E) (a : Loc w r1 E I) {m : Int} (hm : ∀ x, x ∈ E → x ∉ I → Ind r1 (x :: I) → w x ≤ m) (L : List α) (l1 : Ind r1 L) (l : L.length = I.length + 1) (s : ∀ x, x ∈ L → x ∈ E) :
    wt w L ≤ wt w I + m := by
  obtain ⟨x, hx, hxi, hf⟩ := h1.aug R1 l1 (by omega)
  have nd := l1.nodup R1
  have e1 := wt_rem (w := w) nd hx
  have e2 := rem_len_mem nd hx
  have b := loc_best R1 h1 sI a (rem L [x]) (l1.rem R1) (by omega) fun z hz => s z (mem_rem.mp hz).1
  have := hm x (s x hx) hxi hf
  omega
theorem ext_step {E I : List α} {w : α → Int} {re : α → Prop} {L : α → Int × Int} {x0 xm : α} {T : List (α × α × α)} (h1 : Ind r1 I) (h2 : Ind r2 I) (sI : ∀ x, x ∈ I → x ∈ E) (h : ExtW r1 r2 E w I)
    (A : Lab r1 r2 E I w re L) (p : Pth r1 r2 E I w L x0 xm T) (hm : Ind r2 (xm :: I)) (hmin : ∀ x, x ∈ E → x ∉ I → Ind r2 (x :: I) → re x → kle (L xm) (L x)) {J : List α} (nJ : J.Nodup) (eJ : ∀ z, z ∈ flip1 I x0 T ↔ z ∈ J) :
    ExtW r1 r2 E w J := by
  classical
  obtain ⟨w1, w2, ew, a1, a2⟩ := h
  obtain ⟨M1, m1, b1⟩ := absb w E
  obtain ⟨M2, m2, b2⟩ := absb (fun x => (L x).1) E
  obtain ⟨M3, m3, b3⟩ := absb w1 E
  obtain ⟨M4, m4, b4⟩ := absb w2 E
  let N : Int := M1 + M2 + M2 + M3 + M4
  let v1 : α → Int := fun v => if re v then (if v ∈ I then (L v).1 else w v + (L v).1) else N + w1 v
  let v2 : α → Int := fun v => w v - v1 v
  have v1y : ∀ y, re y → y ∈ I → v1 y = (L y).1 := fun y hr hy => by show (if _ then (if _ then _ else _) else _) = _; rw [if_pos hr, if_pos hy]
  have v1x : ∀ x, re x → x ∉ I → v1 x = w x + (L x).1 := fun x hr hx => by show (if _ then (if _ then _ else _) else _) = _; rw [if_pos hr, if_neg hx]
  have v1n : ∀ x, ¬ re x → v1 x = N + w1 x := fun x hr => by show (if _ then (if _ then _ else _) else _) = _; rw [if_neg hr]
  have c1 : Loc v1 r1 E I := fun y hy x hx hxi ex => by
    have q1 := b1 x hx; have q2 := b2 x hx; have q3 := b3 y (sI y hy)
    by_cases hr : re y
    · obtain ⟨hrx, hk⟩ := A.e1 y hy x hx hxi ex hr
      rw [v1y y hr hy, v1x x hrx hxi]
      unfold kle at hk; simp only at hk; omega
    · rw [v1n y hr]
      by_cases hrx : re x
      · rw [v1x x hrx hxi]
        omega
      · rw [v1n x hrx]
        have := a1 y hy x hx hxi ex
        omega
  have c2 : Loc v2 r2 E I := fun y hy x hx hxi ex => by
    have q1 := b1 y (sI y hy); have q2 := b2 y (sI y hy); have q3 := b4 x hx
    have e1 := ew x; have e2 := ew y
    show w x - v1 x ≤ w y - v1 y
    by_cases hr : re x
    · obtain ⟨hry, hk⟩ := A.e2 x hx hxi y hy ex hr
      rw [v1y y hry hy, v1x x hr hxi]
      unfold kle at hk; simp only at hk; omega
    · rw [v1n x hr]
      by_cases hry : re y
      · rw [v1y y hry hy]
        omega
      · rw [v1n y hry]
        have := a2 y hy x hx hxi ex
        omega
  have hf := p.first
  have hl := p.last
  have hr0 : re x0 := (A.src x0 hf.1 hf.2.1 hf.2.2.1).1
  have hrm := (p.rea A).1
  have d1 : v1 x0 = 0 := by
    rw [v1x x0 hr0 hf.2.1, hf.2.2.2]
    show w x0 + - w x0 = 0
    omega
  have d2 : v2 xm = - (L xm).1 := by
    show w xm - v1 xm = _
    rw [v1x xm hrm hl.2]; omega
  have f1 : ∀ x, x ∈ E → x ∉ I → Ind r1 (x :: I) → v1 x ≤ 0 := fun x hx hxi hf => by
    obtain ⟨hr, hk⟩ := A.src x hx hxi hf
    rw [v1x x hr hxi]
    unfold kle at hk; simp only at hk; omega
  have f2 : ∀ x, x ∈ E → x ∉ I → Ind r2 (x :: I) → v2 x ≤ - (L xm).1 := fun x hx hxi hf => by
    show w x - v1 x ≤ _
    have q3 := b4 x hx; have q4 := b2 xm hl.1; have e1 := ew x
    by_cases hr : re x
    · have := hmin x hx hxi hf hr
      rw [v1x x hr hxi]
      unfold kle at this; omega
    · rw [v1n x hr]
      omega
  -- the sums over the new lot
  have ndI := h1.nodup R1
  have sY : ∀ y, y ∈ T.map (·.2.1) → y ∈ I := fun y hy => by
    obtain ⟨t, ht, rfl⟩ := List.mem_map.mp hy
    exact (p.ok t ht).y
  have i1 := p.ind1 R1 h1 A
  have i2 := p.ind2 R2 h2 A hm hmin
  have g1 : wt v1 (flip1 I x0 T) = wt v1 I := by
    have z1 := wt_rems (w := v1) ndI p.ndY sY
    have z2 : wt v1 (T.map (·.2.2)) = wt v1 (T.map (·.2.1)) := by
      unfold wt
      rw [List.map_map, List.map_map]
      congr 1
      refine List.map_congr_left fun t ht => ?_
      have ok := p.ok t ht
      have hr := (p.rea A).2 t ht
      show v1 t.2.2 = v1 t.2.1
      rw [v1x _ hr.2.2 ok.n.2, v1y _ hr.2.1 ok.y, ok.ln]
      show w t.2.2 + ((L t.2.1).1 - w t.2.2) = (L t.2.1).1
      omega
    unfold flip1
    rw [wt_cons, wt_app, d1]
    omega
  have g2 : wt v2 (flip2 I xm T) = wt v2 I - (L xm).1 := by
    have z1 := wt_rems (w := v2) ndI p.ndY sY
    have z2 : wt v2 (T.map (·.1)) = wt v2 (T.map (·.2.1)) := by
      unfold wt
      rw [List.map_map, List.map_map]
      congr 1
      refine List.map_congr_left fun t ht => ?_
      have ok := p.ok t ht
      have hr := (p.rea A).2 t ht
      show w t.1 - v1 t.1 = w t.2.1 - v1 t.2.1
      rw [v1x _ hr.1 ok.p.2, v1y _ hr.2.1 ok.y, ok.ly]
      show w t.1 - (w t.1 + (L t.1).1) = w t.2.1 - ((L t.1).1 + w t.2.1)
      omega
    unfold flip2
    rw [wt_cons, wt_app, d2]
    omega
  have eJ2 : ∀ z, z ∈ flip2 I xm T ↔ z ∈ J := fun z => (p.flip_ext z).symm.trans (eJ z)
  have j1 : Ind r1 J := i1.of_ext R1 nJ eJ
  have j2 : Ind r2 J := i2.of_ext R2 nJ eJ2
  have k1 : wt v1 J = wt v1 I := by rw [← g1]; exact (wt_ext (i1.nodup R1) nJ eJ).symm
  have k2 : wt v2 J = wt v2 I - (L xm).1 := by rw [← g2]; exact (wt_ext (i2.nodup R2) nJ eJ2).symm
  have lJ : J.length = I.length + 1 := by rw [← p.flip_len R1 h1]; exact (nodup_len_eq (i1.nodup R1) nJ eJ).symm
  have sJ : ∀ x, x ∈ J → x ∈ E := fun x hx => p.flip_in sI x ((eJ x).mpr hx)
  refine ⟨v1, v2, fun x => by show v1 x + (w x - v1 x) = w x; omega, glob_loc R1 j1 sJ fun K hK lK sK => ?_, glob_loc R2 j2 sJ fun K hK lK sK => ?_⟩
  · have := up_best R1 h1 sI c1 f1 K hK (by omega) sK
    omega
  · have := up_best R2 h2 sI c2 f2 K hK (by omega) sK
    omega
end
end Bf
set_option Elab.async false
set_option maxHeartbeats 4000000
set_option linter.all false
/-! labels: by rounds over all steps; by a search in breadth -/
namespace Bf
variable {α : Type} [DecidableEq α]

/-! ### walks, the last thing first -/
def Wk (src : α → Prop) (ed : α → α → Prop) : List α → Prop
  | [] => False
  | [s] => src s
  | v :: u :: p => ed u v ∧ Wk src ed (u :: p)
/-- a walk's cost: the things' costs, and their number -/
def cst (c : α → Int) (p : List α) : Int × Int := (wt c p, (p.length : Int))
theorem cst_cons (c : α → Int) (v : α) (p : List α) : cst c (v :: p) = ((cst c p).1 + c v, (cst c p).2 + 1) := by
  unfold cst
  rw [wt_cons, List.length_cons]
  refine Prod.ext ?_ ?_
  · show c v + wt c p = wt c p + c v; omega
  · show ((p.length + 1 : Nat) : Int) = (p.length : Int) + 1; omega
section
variable {src : α → Prop} {ed : α → α → Prop}
theorem Wk.suffix {z : α} {c : List α} : ∀ (q : List α), Wk src ed (q ++ z :: c) → Wk src ed (z :: c)
  | [], h => h
  | [v], h => h.2
  | v :: u :: q, h => Wk.suffix (u :: q) h.2
theorem Wk.splice {z : α} {b c : List α} : ∀ (a : List α), Wk src ed (a ++ z :: b ++ z :: c) → Wk src ed (a ++ z :: c)
  | [], h => Wk.suffix (z :: b) h
  | [v], h => ⟨h.1, Wk.suffix (z :: b) h.2⟩
  | v :: u :: a, h => ⟨h.1, Wk.splice (u :: a) h.2⟩
theorem Wk.tele {c φ : α → Int} (hφ : ∀ u v, ed u v → φ v - φ u ≤ c v) {z : α} {t : List α} : ∀ (q : List α) (x : α), Wk src ed (x :: q ++ z :: t) → φ x - φ z ≤ wt c (x :: q)
  | [], x, h => by
    have := hφ z x h.1
    rw [wt_cons, wt_nil]
    omega
  | y :: q, x, h => by
    have h1 := hφ y x h.1
    have h2 := Wk.tele hφ q y h.2
    rw [wt_cons]
    omega
theorem dup_split : ∀ (l : List α), ¬ l.Nodup → ∃ (a : List α) (z : α) (b c : List α), l = a ++ z :: b ++ z :: c
  | [], h => absurd List.nodup_nil h
  | x :: l, h => by
    by_cases hx : x ∈ l
    · obtain ⟨b, c, e⟩ := List.append_of_mem hx
      exact ⟨[], x, b, c, by rw [e]; rfl⟩
    · obtain ⟨a, z, b, c, e⟩ := dup_split l fun q => h (List.nodup_cons.mpr ⟨hx, q⟩)
      exact ⟨x :: a, z, b, c, by rw [e]; rfl⟩
/-- a walk is no better than some walk of few things -/
theorem Wk.short {E : List α} {c φ : α → Int} (hφ : ∀ u v, ed u v → φ v - φ u ≤ c v) : ∀ (n : Nat) (p : List α), p.length ≤ n → Wk src ed p → (∀ x, x ∈ p → x ∈ E) →
    ∃ p', Wk src ed p' ∧ p'.head? = p.head? ∧ p'.length ≤ E.length ∧ kle (cst c p') (cst c p) := by
  intro n
  induction n with
  | zero =>
    intro p hn hp
    have : p = [] := List.length_eq_zero_iff.mp (by omega)
    subst this
    exact hp.elim
  | succ n ih =>
    intro p hn hp hE
    by_cases hl : p.length ≤ E.length
    · exact ⟨p, hp, rfl, hl, kle_refl _⟩
    · have nd : ¬ p.Nodup := fun q => hl (nodup_le q hE)
      obtain ⟨a, z, b, d, rfl⟩ := dup_split p nd
      have h1 := Wk.splice a hp
      have hc : 0 ≤ wt c (z :: b) := by
        have : Wk src ed (z :: b ++ z :: d) := by
          have := Wk.suffix (z := z) (c := b ++ z :: d) a (by simpa using hp)
          simpa using this
        have := Wk.tele hφ b z this
        omega
      simp only [List.length_append, List.length_cons] at hn
      obtain ⟨p', g1, g2, g3, g4⟩ := ih (a ++ z :: d) (by simp only [List.length_append, List.length_cons]; omega) h1 fun x hx => hE x (by
        simp only [List.mem_append, List.mem_cons] at hx ⊢
        rcases hx with q | q | q
        · exact Or.inl (Or.inl q)
        · exact Or.inr (Or.inl q)
        · exact Or.inr (Or.inr q))
      refine ⟨p', g1, ?_, g3, kle_trans g4 ?_⟩
      · rw [g2]
        cases a <;> rfl
      · unfold kle cst
        simp only [wt_app, wt_cons, List.length_append, List.length_cons] at hc ⊢
        omega
end

/-! ### labels by rounds -/
structure BF (α : Type) where
  cs : α → Option (Int × Int)
  cm : α → Option (Option α)
/-- what a test on the written pairs tells -/
def klt (a b : Int × Int) : Prop := a.1 < b.1 ∨ (a.1 = b.1 ∧ a.2 < b.2)
theorem klt_not {a b : Int × Int} : ¬ klt a b ↔ kle b a := by unfold klt kle; omega
theorem klt_le {a b : Int × Int} (h : klt a b) : kle a b := by unfold klt at h; unfold kle; omega
instance (a b : Int × Int) : Decidable (klt a b) := by unfold klt; infer_instance
/-- one step's look -/
def relax (c : α → Int) (s : BF α) (e : α × α) : BF α :=
  match s.cs e.1 with
  | none => s
  | some k =>
    let n : Int × Int := (k.1 + c e.2, k.2 + 1)
    match s.cs e.2 with
    | none => ⟨fun v => if v = e.2 then some n else s.cs v, fun v => if v = e.2 then some (some e.1) else s.cm v⟩
    | some o => if klt n o then ⟨fun v => if v = e.2 then some n else s.cs v, fun v => if v = e.2 then some (some e.1) else s.cm v⟩ else s
/-- what holds behind every look -/
structure BFInv (src : α → Prop) (ed : α → α → Prop) (E : List α) (c : α → Int) (s : BF α) : Prop where
  wk : ∀ v k, s.cs v = some k → ∃ p, Wk src ed (v :: p) ∧ cst c (v :: p) = k ∧ ∀ x, x ∈ v :: p → x ∈ E
  dom : ∀ v, s.cm v = none ↔ s.cs v = none
  beg : ∀ v, s.cm v = some none → src v ∧ s.cs v = some (c v, 1)
  cam : ∀ v u, s.cm v = some (some u) → ed u v ∧ ∃ ku kv, s.cs u = some ku ∧ s.cs v = some kv ∧ kle (ku.1 + c v, ku.2 + 1) kv
/-- the walks that are told already -/
def Told (c : α → Int) (s : BF α) (p : List α) : Prop := ∀ v, p.head? = some v → ∃ k, s.cs v = some k ∧ kle k (cst c p)
section
variable {src : α → Prop} {ed : α → α → Prop} {E : List α} {c : α → Int}
theorem relax_cs (s : BF α) (e : α × α) : (∀ v k, s.cs v = some k → ∃ k', (relax c s e).cs v = some k' ∧ kle k' k) := by
  intro v k hv
  unfold relax
  cases h1 : s.cs e.1 with
  | none => exact ⟨k, hv, kle_refl _⟩
  | some ks =>
    simp only
    cases h2 : s.cs e.2 with
    | none =>
      simp only
      by_cases ev : v = e.2
      · subst ev; rw [hv] at h2; cases h2
      · rw [if_neg ev]; exact ⟨k, hv, kle_refl _⟩
    | some o =>
      simp only
      by_cases hlt : klt (ks.1 + c e.2, ks.2 + 1) o
      · rw [if_pos hlt]
        simp only
        by_cases ev : v = e.2
        · rw [if_pos ev]
          subst ev
          rw [hv] at h2
          cases h2
          exact ⟨_, rfl, klt_le hlt⟩
        · rw [if_neg ev]; exact ⟨k, hv, kle_refl _⟩
      · rw [if_neg hlt]; exact ⟨k, hv, kle_refl _⟩
theorem relax_told {s : BF α} {e : α × α} {p : List α} (h : Told c s p) : Told c (relax c s e) p := fun v hv => by
  obtain ⟨k, h1, h2⟩ := h v hv
  obtain ⟨k', h3, h4⟩ := relax_cs (c := c) s e v k h1
  exact ⟨k', h3, kle_trans h4 h2⟩
/-- a walk goes on by the step that is looked at -/
theorem relax_new {s : BF α} {e : α × α} {p : List α} (h : Told c s (e.1 :: p)) : Told c (relax c s e) (e.2 :: e.1 :: p) := fun v hv => by
  have hv' : e.2 = v := Option.some.inj hv
  subst hv'
  obtain ⟨k, h1, h2⟩ := h e.1 rfl
  have goal : ∀ kk, kle kk (k.1 + c e.2, k.2 + 1) → kle kk (cst c (e.2 :: e.1 :: p)) := fun kk hk => by
    rw [cst_cons]
    unfold kle at *
    simp only at *
    omega
  unfold relax
  rw [h1]
  simp only
  cases h3 : s.cs e.2 with
  | none =>
    simp only
    rw [if_pos trivial]
    exact ⟨_, rfl, goal _ (kle_refl _)⟩
  | some o =>
    simp only
    by_cases hlt : klt (k.1 + c e.2, k.2 + 1) o
    · rw [if_pos hlt]
      simp only
      rw [if_pos trivial]
      exact ⟨_, rfl, goal _ (kle_refl _)⟩
    · rw [if_neg hlt]
      exact ⟨o, h3, goal _ (klt_not.mp hlt)⟩
theorem relax_inv {s : BF α} {e : α × α} (he : ed e.1 e.2) (heE : e.2 ∈ E) (I : BFInv src ed E c s) : BFInv src ed E c (relax c s e) := by
  have put : ∀ k, s.cs e.1 = some k → (∀ o, s.cs e.2 = some o → klt (k.1 + c e.2, k.2 + 1) o) →
      BFInv src ed E c ⟨fun v => if v = e.2 then some (k.1 + c e.2, k.2 + 1) else s.cs v, fun v => if v = e.2 then some (some e.1) else s.cm v⟩ := by
    intro k h1 h2
    have mono : ∀ u ku, s.cs u = some ku → ∃ ku', (if u = e.2 then some (k.1 + c e.2, k.2 + 1) else s.cs u) = some ku' ∧ kle ku' ku := fun u ku hu => by
      by_cases eu : u = e.2
      · rw [if_pos eu]
        subst eu
        exact ⟨_, rfl, klt_le (h2 ku hu)⟩
      · rw [if_neg eu]
        exact ⟨ku, hu, kle_refl _⟩
    constructor
    · intro v kv hv
      simp only at hv
      by_cases ev : v = e.2
      · rw [if_pos ev] at hv
        subst ev
        cases hv
        obtain ⟨p, g1, g2, g3⟩ := I.wk e.1 k h1
        refine ⟨e.1 :: p, ⟨he, g1⟩, ?_, fun x hx => ?_⟩
        · rw [cst_cons, g2]
        · rcases List.mem_cons.mp hx with q | q
          · exact q ▸ heE
          · exact g3 x q
      · rw [if_neg ev] at hv
        exact I.wk v kv hv
    · intro v
      simp only
      by_cases ev : v = e.2
      · rw [if_pos ev, if_pos ev]; simp
      · rw [if_neg ev, if_neg ev]; exact I.dom v
    · intro v hv
      simp only at hv ⊢
      by_cases ev : v = e.2
      · rw [if_pos ev] at hv; cases hv
      · rw [if_neg ev] at hv ⊢
        exact I.beg v hv
    · intro v u hv
      simp only at hv ⊢
      by_cases ev : v = e.2
      · rw [if_pos ev] at hv
        cases hv
        subst ev
        rw [if_pos rfl]
        obtain ⟨ku', g1, g2⟩ := mono e.1 k h1
        refine ⟨he, ku', _, g1, rfl, ?_⟩
        unfold kle at g2 ⊢
        simp only
        omega
      · rw [if_neg ev] at hv ⊢
        obtain ⟨g0, ku, kv, g1, g2, g3⟩ := I.cam v u hv
        obtain ⟨ku', g4, g5⟩ := mono u ku g1
        refine ⟨g0, ku', kv, g4, g2, ?_⟩
        unfold kle at g3 g5 ⊢
        simp only at *
        omega
  unfold relax
  cases h1 : s.cs e.1 with
  | none => exact I
  | some k =>
    simp only
    cases h2 : s.cs e.2 with
    | none => exact put k h1 fun o ho => by rw [h2] at ho; cases ho
    | some o =>
      simp only
      by_cases hlt : klt (k.1 + c e.2, k.2 + 1) o
      · rw [if_pos hlt]
        exact put k h1 fun o' ho => by
          rw [h2] at ho
          cases ho
          exact hlt
      · rw [if_neg hlt]
        exact I
/-- behind a whole round the walks of one thing more are told -/
theorem round_told {steps : List (α × α)} (hs : ∀ u v, ed u v → (u, v) ∈ steps) {n : Nat} (hn : 1 ≤ n) {s : BF α} (h : ∀ p, Wk src ed p → p.length ≤ n → Told c s p) :
    ∀ p, Wk src ed p → p.length ≤ n + 1 → Told c (steps.foldl (relax c) s) p := by
  have keep : ∀ (l : List (α × α)) (s : BF α) (p : List α), Told c s p → Told c (l.foldl (relax c) s) p := by
    intro l
    induction l with
    | nil => intro s p h; exact h
    | cons e l ih => intro s p h; exact ih _ p (relax_told h)
  have new : ∀ (l : List (α × α)) (s : BF α) (u v : α) (p : List α), (u, v) ∈ l → Told c s (u :: p) → Told c (l.foldl (relax c) s) (v :: u :: p) := by
    intro l
    induction l with
    | nil => intro s u v p h; cases h
    | cons e l ih =>
      intro s u v p h ht
      rcases List.mem_cons.mp h with q | q
      · subst q
        exact keep l _ _ (relax_new (e := (u, v)) ht)
      · exact ih _ u v p q (relax_told ht)
  intro p hp hl
  match p, hp, hl with
  | [], hp, _ => exact hp.elim
  | [x], hp, hl => exact keep steps s _ (h [x] hp hn)
  | v :: u :: p, hp, hl =>
    exact new steps s u v p (hs u v hp.1) (h (u :: p) hp.2 (by simp only [List.length_cons] at hl ⊢; omega))
theorem round_inv {steps : List (α × α)} (hs : ∀ e, e ∈ steps → ed e.1 e.2 ∧ e.2 ∈ E) {s : BF α} (I : BFInv src ed E c s) : BFInv src ed E c (steps.foldl (relax c) s) := by
  induction steps generalizing s with
  | nil => exact I
  | cons e l ih => exact ih (fun x hx => hs x (List.mem_cons_of_mem _ hx)) (relax_inv (hs e List.mem_cons_self).1 (hs e List.mem_cons_self).2 I)
/-- all walks are told: the labels stand -/
theorem bf_end {φ : α → Int} (hφ : ∀ u v, ed u v → φ v - φ u ≤ c v) (hE : ∀ u v, ed u v → v ∈ E) {s : BF α} (I : BFInv src ed E c s) (ht : ∀ p, Wk src ed p → p.length ≤ E.length → Told c s p) :
    ∀ u v, ed u v → ∀ k, s.cs u = some k → ∃ k', s.cs v = some k' ∧ kle k' (k.1 + c v, k.2 + 1) := by
  intro u v e k hk
  obtain ⟨p, g1, g2, g3⟩ := I.wk u k hk
  obtain ⟨p', a1, a2, a3, a4⟩ := Wk.short (src := src) (E := E) hφ _ (v :: u :: p) (Nat.le_refl _) ⟨e, g1⟩ fun x hx => by
    rcases List.mem_cons.mp hx with q | q
    · exact q ▸ hE u v e
    · exact g3 x q
  obtain ⟨k', b1, b2⟩ := ht p' a1 a3 v a2
  refine ⟨k', b1, kle_trans b2 ?_⟩
  rw [cst_cons, g2] at a4
  exact a4
end

/-! ### labels that stand, and where each thing was come from -/
structure Fin (r1 r2 : List α → Nat) (E I : List α) (w : α → Int) (cm : α → Option (Option α)) (L : α → Int × Int) : Prop where
  lab : Lab r1 r2 E I w (fun v => cm v ≠ none) L
  beg : ∀ v, cm v = some none → v ∈ E ∧ v ∉ I ∧ Ind r1 (v :: I) ∧ L v = (- w v, 1)
  inn : ∀ y x, cm y = some (some x) → y ∈ I → x ∈ E ∧ x ∉ I ∧ Ex r2 I y x ∧ cm x ≠ none ∧ L y = ((L x).1 + w y, (L x).2 + 1)
  out : ∀ x y, cm x = some (some y) → x ∉ I → x ∈ E ∧ y ∈ I ∧ Ex r1 I y x ∧ cm y ≠ none ∧ L x = ((L y).1 - w x, (L y).2 + 1)
  pos : ∀ v, cm v ≠ none → 1 ≤ (L v).2
/-- a list, each thing behind the one that was come from it -/
def Bk (cm : α → Option (Option α)) : List α → Prop
  | [] => False
  | [s] => cm s = some none
  | v :: u :: p => cm v = some (some u) ∧ Bk cm (u :: p)
section
variable {r1 r2 : List α → Nat} {E I : List α} {w : α → Int} {cm : α → Option (Option α)} {L : α → Int × Int}
theorem Fin.pth (F : Fin r1 r2 E I w cm L) : ∀ (n : Nat) (x : α) (p : List α), p.length ≤ n → Bk cm (x :: p) → x ∉ I → ∃ x0 T, Pth r1 r2 E I w L x0 x T ∧ ∀ z, z ∈ x :: p ↔ (z = x0 ∨ z ∈ T.map (·.2.2)) ∨ z ∈ T.map (·.2.1) := by
  intro n
  induction n using Nat.strongRecOn with
  | _ n ih =>
    intro x p hn hb hx
    match p, hb, hn with
    | [], hb, _ =>
      obtain ⟨a, b, c, d⟩ := F.beg x hb
      exact ⟨x, [], Pth.start a b c d, fun z => by simp⟩
    | [y], hb, _ =>
      -- y would be a first thing: it lies in I
      obtain ⟨a, b, c, d, e⟩ := F.out x y hb.1 hx
      exact absurd b (F.beg y hb.2).2.1
    | y :: x' :: p, hb, hn =>
      obtain ⟨a, b, c, d, e⟩ := F.out x y hb.1 hx
      obtain ⟨a', b', c', d', e'⟩ := F.inn y x' hb.2.1 b
      simp only [List.length_cons] at hn
      obtain ⟨x0, T, hp, hz⟩ := ih p.length (by omega) x' p (Nat.le_refl _) hb.2.2 b'
      refine ⟨x0, (x', y, x) :: T, Pth.step hp y x b c' e' a hx c e, fun z => ?_⟩
      have := hz z
      simp only [List.map_cons, List.mem_cons] at this ⊢
      constructor
      · rintro (h | h | h)
        · exact Or.inl (Or.inr (Or.inl h))
        · exact Or.inr (Or.inl h)
        · rcases this.mp h with (q | q) | q
          · exact Or.inl (Or.inl q)
          · exact Or.inl (Or.inr (Or.inr q))
          · exact Or.inr (Or.inr q)
      · rintro ((h | h | h) | (h | h))
        · exact Or.inr (Or.inr (this.mpr (Or.inl (Or.inl h))))
        · exact Or.inl h
        · exact Or.inr (Or.inr (this.mpr (Or.inl (Or.inr h))))
        · exact Or.inr (Or.inl h)
        · exact Or.inr (Or.inr (this.mpr (Or.inr h)))
/-- the number falls on the way back -/
theorem Fin.falls (F : Fin r1 r2 E I w cm L) {v u : α} (h : cm v = some (some u)) : (L u).2 < (L v).2 ∧ cm u ≠ none := by
  by_cases hv : v ∈ I
  · obtain ⟨_, _, _, d, e⟩ := F.inn v u h hv
    rw [e]; exact ⟨by show (L u).2 < (L u).2 + 1; omega, d⟩
  · obtain ⟨_, _, _, d, e⟩ := F.out v u h hv
    rw [e]; exact ⟨by show (L u).2 < (L u).2 + 1; omega, d⟩
end

/-- what becomes of a lot by a way: the things change sides -/
theorem flip_mem {I p T' X' : List α} {x0 : α} (h : ∀ z, z ∈ p ↔ (z = x0 ∨ z ∈ X') ∨ z ∈ T') (hx0 : x0 ∉ I) (hX : ∀ z, z ∈ X' → z ∉ I) (hT : ∀ z, z ∈ T' → z ∈ I) :
    ∀ z, (z ∈ x0 :: (rem I T' ++ X')) ↔ ((z ∈ I ∧ z ∉ p) ∨ (z ∈ p ∧ z ∉ I)) := fun z => by
  simp only [List.mem_cons, List.mem_append, mem_rem]
  rw [h z]
  constructor
  · rintro (q | ⟨q1, q2⟩ | q)
    · subst q
      exact Or.inr ⟨Or.inl (Or.inl rfl), hx0⟩
    · refine Or.inl ⟨q1, ?_⟩
      rintro ((e | e) | e)
      · exact hx0 (e ▸ q1)
      · exact hX z e q1
      · exact q2 e
    · exact Or.inr ⟨Or.inl (Or.inr q), hX z q⟩
  · rintro (⟨q1, q2⟩ | ⟨(q | q) | q, q2⟩)
    · exact Or.inr (Or.inl ⟨q1, fun e => q2 (Or.inr e)⟩)
    · exact Or.inl q
    · exact Or.inr (Or.inr q)
    · exact absurd (hT z q) q2
/-- THE STEP: from a shortest way to a lot with one thing more -/
theorem fin_step {r1 r2 : List α → Nat} (R1 : IsRk r1) (R2 : IsRk r2) {E I : List α} {w : α → Int} {cm : α → Option (Option α)} {L : α → Int × Int} (h1 : Ind r1 I) (h2 : Ind r2 I) (sI : ∀ x, x ∈ I → x ∈ E)
    (F : Fin r1 r2 E I w cm L) {xm : α} {p : List α} (hb : Bk cm (xm :: p)) (hx : xm ∉ I) (hm : Ind r2 (xm :: I)) (hmin : ∀ x, x ∈ E → x ∉ I → Ind r2 (x :: I) → cm x ≠ none → kle (L xm) (L x))
    {J : List α} (nJ : J.Nodup) (eJ : ∀ z, z ∈ J ↔ ((z ∈ I ∧ z ∉ xm :: p) ∨ (z ∈ xm :: p ∧ z ∉ I))) :
    Ind r1 J ∧ Ind r2 J ∧ J.length = I.length + 1 ∧ (∀ x, x ∈ J → x ∈ E) ∧ (ExtW r1 r2 E w I → ExtW r1 r2 E w J) := by
  obtain ⟨x0, T, hp, hz⟩ := F.pth _ xm p (Nat.le_refl _) hb hx
  have hf := hp.first
  have e1 : ∀ z, z ∈ flip1 I x0 T ↔ z ∈ J := fun z => by
    rw [eJ z]
    refine flip_mem hz hf.2.1 ?_ ?_ z
    · intro z hz
      obtain ⟨t, ht, rfl⟩ := List.mem_map.mp hz
      exact (hp.ok t ht).n.2
    · intro z hz
      obtain ⟨t, ht, rfl⟩ := List.mem_map.mp hz
      exact (hp.ok t ht).y
  have i1 := hp.ind1 R1 h1 F.lab
  have i2 := hp.ind2 R2 h2 F.lab hm hmin
  refine ⟨i1.of_ext R1 nJ e1, i2.of_ext R2 nJ fun z => (hp.flip_ext z).symm.trans (e1 z), ?_, fun x hx => hp.flip_in sI x ((e1 x).mpr hx), fun hE => ext_step R1 R2 h1 h2 sI hE F.lab hp hm hmin nJ e1⟩
  rw [← hp.flip_len R1 h1]
  exact (nodup_len_eq (i1.nodup R1) nJ e1).symm
end Bf
set_option Elab.async false
set_option maxHeartbeats 4000000
set_option linter.all false
/-! the search in breadth; labels by rounds for two families; the parts of a split -/
namespace Bf
variable {α : Type} [DecidableEq α]

/-! ### the search in breadth: cm tells where each thing was come from, ws the things that wait -/
structure BS (α : Type) where
  ws : List α
  ks : List α
  cm : α → Option (Option α)
/-- a thing that is not known yet is noted and waits -/
def visit (t : α) (s : BS α) (f : α) : BS α := if f ∈ s.ks then s else ⟨s.ws ++ [f], s.ks ++ [f], fun v => if v = f then some (some t) else s.cm v⟩
/-- d: how far each thing is; lo, hi: the waiting things lie between; done: the things whose neighbours are noted -/
structure BSInv (src : List α) (adj : α → List α) (E : List α) (done : α → Prop) (lo : Int) (s : BS α) (d : α → Int) : Prop where
  nd : s.ks.Nodup
  inE : ∀ v, v ∈ s.ks → v ∈ E
  dom : ∀ v, s.cm v ≠ none ↔ v ∈ s.ks
  srck : ∀ v, v ∈ src → s.cm v = some none
  beg : ∀ v, s.cm v = some none → v ∈ src ∧ d v = 1
  cam : ∀ v u, s.cm v = some (some u) → u ∈ s.ks ∧ v ∈ adj u ∧ d v = d u + 1
  pos : ∀ v, v ∈ s.ks → 1 ≤ d v
  wsk : ∀ v, v ∈ s.ws → v ∈ s.ks
  ord : s.ws.Pairwise fun a b => d a ≤ d b
  low : ∀ v, v ∈ s.ws → lo ≤ d v
  top : ∀ v, v ∈ s.ks → d v ≤ lo + 1
  fin : ∀ u, u ∈ s.ks → u ∉ s.ws → done u → ∀ v, v ∈ adj u → v ∈ s.ks ∧ d v ≤ d u + 1
section
variable {src : List α} {adj : α → List α} {E : List α}
/-- what is still to be done, as a number -/
def bsm (E : List α) (s : BS α) : Nat := 2 * (E.length - s.ks.length) + s.ws.length
theorem bs_start (hE : ∀ v, v ∈ src → v ∈ E) (hn : src.Nodup) : ∃ d, BSInv src adj E (fun _ => True) 1 ⟨src, src, fun v => if v ∈ src then some none else none⟩ d := by
  refine ⟨fun _ => 1, hn, hE, fun v => ?_, fun v hv => if_pos hv, fun v hv => ?_, fun v u hv => ?_, fun v _ => Int.le_refl _, fun v hv => hv, ?_, fun v _ => Int.le_refl _, fun v _ => by show (1 : Int) ≤ 1 + 1; omega, fun u h1 h2 => absurd h1 h2⟩
  · show (if v ∈ src then some none else none) ≠ none ↔ v ∈ src
    by_cases h : v ∈ src
    · rw [if_pos h]; simp [h]
    · rw [if_neg h]; simp [h]
  · have hv' : (if v ∈ src then some none else (none : Option (Option α))) = some none := hv
    by_cases h : v ∈ src
    · exact ⟨h, rfl⟩
    · rw [if_neg h] at hv'; cases hv'
  · have hv' : (if v ∈ src then some none else (none : Option (Option α))) = some (some u) := hv
    by_cases h : v ∈ src
    · rw [if_pos h] at hv'; cases hv'
    · rw [if_neg h] at hv'; cases hv'
  · exact List.pairwise_of_forall (by intro _ _; exact Int.le_refl _)
/-- one neighbour of the thing t that is being looked at -/
theorem visit_inv {t f : α} {done : α → Prop} {s : BS α} {d : α → Int} (ht : t ∈ s.ks) (hf : f ∈ adj t) (hfE : f ∈ E) (I : BSInv src adj E done (d t) s d) :
    ∃ d', BSInv src adj E done (d' t) (visit t s f) d' ∧ d' t = d t ∧ f ∈ (visit t s f).ks ∧ d' f ≤ d' t + 1 ∧ (∀ v, v ∈ s.ks → v ∈ (visit t s f).ks ∧ d' v = d v) ∧ t ∈ (visit t s f).ks ∧
      (∀ v, v ∈ s.ks → (v ∈ (visit t s f).ws ↔ v ∈ s.ws)) ∧ bsm E (visit t s f) ≤ bsm E s := by
  unfold visit
  by_cases h : f ∈ s.ks
  · rw [if_pos h]
    exact ⟨d, I, rfl, h, I.top f h, fun v hv => ⟨hv, rfl⟩, ht, fun v hv => Iff.rfl, Nat.le_refl _⟩
  · rw [if_neg h]
    have ntf : ∀ v, v ∈ s.ks → v ≠ f := fun v hv e => h (e ▸ hv)
    let d' : α → Int := fun v => if v = f then d t + 1 else d v
    have dold : ∀ v, v ∈ s.ks → d' v = d v := fun v hv => if_neg (ntf v hv)
    have dnew : d' f = d t + 1 := if_pos rfl
    have dt : d' t = d t := dold t ht
    refine ⟨d', ?_, dt, by simp, by rw [dnew, dt]; exact Int.le_refl _, fun v hv => ⟨by simp [hv], dold v hv⟩, by simp [ht], fun v hv => ?_, ?_⟩
    · rw [dt]
      constructor
      · show (s.ks ++ [f]).Nodup
        rw [List.nodup_append]
        exact ⟨I.nd, by simp, fun a ha b hb e => by
          have : b = f := by simpa using hb
          exact ntf a ha (e.trans this)⟩
      · intro v hv
        simp only [List.mem_append, List.mem_singleton] at hv
        rcases hv with q | q
        · exact I.inE v q
        · exact q ▸ hfE
      · intro v
        simp only [List.mem_append, List.mem_singleton]
        by_cases e : v = f
        · rw [if_pos e]; simp [e]
        · rw [if_neg e]
          have := I.dom v
          constructor
          · intro q; exact Or.inl (this.mp q)
          · rintro (q | q)
            · exact this.mpr q
            · exact absurd q e
      · intro v hv
        have hs := I.srck v hv
        have : v ≠ f := fun e => h (e ▸ (I.dom v).mp (by rw [hs]; simp))
        show (if v = f then _ else _) = _
        rw [if_neg this]; exact hs
      · intro v hv
        have hv' : (if v = f then some (some t) else s.cm v) = some none := hv
        by_cases e : v = f
        · rw [if_pos e] at hv'; cases hv'
        · rw [if_neg e] at hv'
          have hk := (I.dom v).mp (by rw [hv']; simp)
          rw [dold v hk]
          exact I.beg v hv'
      · intro v u hv
        have hv' : (if v = f then some (some t) else s.cm v) = some (some u) := hv
        by_cases e : v = f
        · rw [if_pos e] at hv'
          cases hv'
          subst e
          exact ⟨by simp [ht], hf, by rw [dnew, dt]⟩
        · rw [if_neg e] at hv'
          obtain ⟨a, b, c⟩ := I.cam v u hv'
          have hk := (I.dom v).mp (by rw [hv']; simp)
          exact ⟨by simp [a], b, by rw [dold v hk, dold u a]; exact c⟩
      · intro v hv
        simp only [List.mem_append, List.mem_singleton] at hv
        rcases hv with q | q
        · rw [dold v q]; exact I.pos v q
        · rw [q, dnew]
          have := I.pos t ht
          omega
      · intro v hv
        simp only [List.mem_append, List.mem_singleton] at hv ⊢
        rcases hv with q | q
        · exact Or.inl (I.wsk v q)
        · exact Or.inr q
      · show (s.ws ++ [f]).Pairwise _
        rw [List.pairwise_append]
        refine ⟨?_, List.pairwise_singleton _ _, fun a ha b hb => ?_⟩
        · exact I.ord.imp_of_mem fun {a b} ha hb hab => by rw [dold a (I.wsk a ha), dold b (I.wsk b hb)]; exact hab
        · have : b = f := by simpa using hb
          rw [this, dnew, dold a (I.wsk a ha)]
          exact I.top a (I.wsk a ha)
      · intro v hv
        simp only [List.mem_append, List.mem_singleton] at hv
        rcases hv with q | q
        · rw [dold v (I.wsk v q)]; exact I.low v q
        · rw [q, dnew]; omega
      · intro v hv
        simp only [List.mem_append, List.mem_singleton] at hv
        rcases hv with q | q
        · rw [dold v q]; exact I.top v q
        · rw [q, dnew]; exact Int.le_refl _
      · intro u hu hw hd v hv
        simp only [List.mem_append, List.mem_singleton, not_or] at hu hw ⊢
        rcases hu with q | q
        · obtain ⟨a, b⟩ := I.fin u q hw.1 hd v hv
          exact ⟨Or.inl a, by rw [dold v a, dold u q]; exact b⟩
        · exact absurd q hw.2
    · simp only [List.mem_append, List.mem_singleton]
      constructor
      · rintro (q | q)
        · exact q
        · exact absurd q (ntf v hv)
      · exact Or.inl
    · have lt : s.ks.length < E.length := by
        have : (f :: s.ks).length ≤ E.length := nodup_le (List.nodup_cons.mpr ⟨h, I.nd⟩) fun x hx => by
          rcases List.mem_cons.mp hx with q | q
          · exact q ▸ hfE
          · exact I.inE x q
        rw [List.length_cons] at this
        omega
      unfold bsm
      simp only [List.length_append, List.length_cons, List.length_nil]
      omega
theorem visits_inv {t : α} {done : α → Prop} : ∀ (l : List α) {s : BS α} {d : α → Int}, t ∈ s.ks → (∀ f, f ∈ l → f ∈ adj t ∧ f ∈ E) → BSInv src adj E done (d t) s d →
    ∃ d', BSInv src adj E done (d' t) (l.foldl (visit t) s) d' ∧ d' t = d t ∧ (∀ f, f ∈ l → f ∈ (l.foldl (visit t) s).ks ∧ d' f ≤ d' t + 1) ∧ (∀ v, v ∈ s.ks → v ∈ (l.foldl (visit t) s).ks ∧ d' v = d v) ∧
      (∀ v, v ∈ s.ks → (v ∈ (l.foldl (visit t) s).ws ↔ v ∈ s.ws)) ∧ bsm E (l.foldl (visit t) s) ≤ bsm E s
  | [], s, d, ht, hl, I => ⟨d, I, rfl, fun f hf => by (cases hf), fun v hv => ⟨hv, rfl⟩, fun v _ => Iff.rfl, Nat.le_refl _⟩
  | f :: l, s, d, ht, hl, I => by
    obtain ⟨hf, hfE⟩ := hl f List.mem_cons_self
    obtain ⟨d1, I1, e1, k1, b1, o1, t1, w1, m1⟩ := visit_inv ht hf hfE I
    obtain ⟨d2, I2, e2, k2, o2, w2, m2⟩ := visits_inv l t1 (fun g hg => hl g (List.mem_cons_of_mem _ hg)) I1
    refine ⟨d2, I2, e2.trans e1, fun g hg => ?_, fun v hv => ?_, fun v hv => ?_, Nat.le_trans m2 m1⟩
    · rcases List.mem_cons.mp hg with q | q
      · subst q
        obtain ⟨a, b⟩ := o2 g k1
        exact ⟨a, by rw [b, e2]; exact b1⟩
      · exact k2 g q
    · obtain ⟨a, b⟩ := o1 v hv
      obtain ⟨a', b'⟩ := o2 v a
      exact ⟨a', b'.trans b⟩
    · exact (w2 v (o1 v hv).1).trans (w1 v hv)
/-- one thing is taken and its neighbours are noted -/
def bstep (adj : α → List α) (s : BS α) (t : α) (ws : List α) : BS α := (adj t).foldl (visit t) ⟨ws, s.ks, s.cm⟩
theorem bstep_inv (hadj : ∀ t, ∀ f, f ∈ adj t → f ∈ E) {lo : Int} {s : BS α} {d : α → Int} {t : α} {ws : List α} (e : s.ws = t :: ws) (I : BSInv src adj E (fun _ => True) lo s d) :
    ∃ lo' d', BSInv src adj E (fun _ => True) lo' (bstep adj s t ws) d' ∧ bsm E (bstep adj s t ws) < bsm E s := by
  have htw : t ∈ s.ws := by rw [e]; exact List.mem_cons_self
  have ht : t ∈ s.ks := I.wsk t htw
  have ord := I.ord
  rw [e, List.pairwise_cons] at ord
  have hlo := I.low t htw
  -- while t is being looked at its own neighbours are not asked for
  have J : BSInv src adj E (fun u => u ≠ t) (d t) ⟨ws, s.ks, s.cm⟩ d := by
    refine ⟨I.nd, I.inE, I.dom, I.srck, I.beg, I.cam, I.pos, fun v hv => I.wsk v (by rw [e]; exact List.mem_cons_of_mem _ hv), ord.2, fun v hv => ord.1 v hv, fun v hv => ?_, fun u hu hw hd v hv => ?_⟩
    · have := I.top v hv
      omega
    · refine I.fin u hu (fun q => ?_) trivial v hv
      rw [e] at q
      rcases List.mem_cons.mp q with q | q
      · exact hd q
      · exact hw q
  obtain ⟨d', J', e', k', o', w', m'⟩ := visits_inv (adj t) (s := ⟨ws, s.ks, s.cm⟩) ht (fun f hf => ⟨hf, hadj t f hf⟩) J
  refine ⟨d' t, d', ⟨J'.nd, J'.inE, J'.dom, J'.srck, J'.beg, J'.cam, J'.pos, J'.wsk, J'.ord, J'.low, J'.top, fun u hu hw _ v hv => ?_⟩, ?_⟩
  · by_cases hut : u = t
    · subst hut
      exact k' v hv
    · exact J'.fin u hu hw hut v hv
  · refine Nat.lt_of_le_of_lt m' ?_
    unfold bsm
    rw [e]
    simp only [List.length_cons]
    omega
/-- behind the search -/
structure BEnd (src : List α) (adj : α → List α) (E : List α) (ks : List α) (cm : α → Option (Option α)) (d : α → Int) : Prop where
  nd : ks.Nodup
  inE : ∀ v, v ∈ ks → v ∈ E
  dom : ∀ v, cm v ≠ none ↔ v ∈ ks
  srck : ∀ v, v ∈ src → cm v = some none
  beg : ∀ v, cm v = some none → v ∈ src ∧ d v = 1
  cam : ∀ v u, cm v = some (some u) → u ∈ ks ∧ v ∈ adj u ∧ d v = d u + 1
  pos : ∀ v, v ∈ ks → 1 ≤ d v
  fin : ∀ u, u ∈ ks → ∀ v, v ∈ adj u → v ∈ ks ∧ d v ≤ d u + 1
theorem bs_end {lo : Int} {s : BS α} {d : α → Int} (I : BSInv src adj E (fun _ => True) lo s d) (e : s.ws = []) : BEnd src adj E s.ks s.cm d :=
  ⟨I.nd, I.inE, I.dom, I.srck, I.beg, I.cam, I.pos, fun u hu v hv => I.fin u hu (by rw [e]; simp) trivial v hv⟩
end

/-! ### the search for a way of exchanges -/
/-- src and adj are the beginning things and the steps of two families -/
structure Gph (r1 r2 : List α → Nat) (E I : List α) (src : List α) (adj : α → List α) : Prop where
  src : ∀ x, x ∈ src ↔ x ∈ E ∧ x ∉ I ∧ Ind r1 (x :: I)
  inn : ∀ y, y ∈ I → ∀ x, x ∈ adj y ↔ x ∈ E ∧ x ∉ I ∧ Ex r1 I y x
  out : ∀ x, x ∈ E → x ∉ I → ∀ y, y ∈ adj x ↔ y ∈ I ∧ Ex r2 I y x
theorem bs_fin {r1 r2 : List α → Nat} {E I src : List α} {adj : α → List α} {ks : List α} {cm : α → Option (Option α)} {d : α → Int} (G : Gph r1 r2 E I src adj) (sI : ∀ x, x ∈ I → x ∈ E) (B : BEnd src adj E ks cm d) :
    Fin r1 r2 E I (fun _ => 0) cm (fun v => (0, d v)) := by
  constructor
  · constructor
    · intro x hx hxi hf
      have hs := B.srck x ((G.src x).mpr ⟨hx, hxi, hf⟩)
      refine ⟨by rw [hs]; simp, ?_⟩
      rw [(B.beg x hs).2]
      exact Or.inr ⟨rfl, Int.le_refl _⟩
    · intro y hy x hx hxi ex hr
      obtain ⟨a, b⟩ := B.fin y ((B.dom y).mp hr) x ((G.inn y hy x).mpr ⟨hx, hxi, ex⟩)
      exact ⟨(B.dom x).mpr a, Or.inr ⟨rfl, b⟩⟩
    · intro x hx hxi y hy ex hr
      obtain ⟨a, b⟩ := B.fin x ((B.dom x).mp hr) y ((G.out x hx hxi y).mpr ⟨hy, ex⟩)
      exact ⟨(B.dom y).mpr a, Or.inr ⟨rfl, b⟩⟩
  · intro v hv
    obtain ⟨a, b⟩ := B.beg v hv
    obtain ⟨p, q, r⟩ := (G.src v).mp a
    exact ⟨p, q, r, by rw [b]; rfl⟩
  · intro y x hv hy
    obtain ⟨a, b, c⟩ := B.cam y x hv
    have hxE := B.inE x a
    by_cases hx : x ∈ I
    · obtain ⟨_, q, _⟩ := (G.inn x hx y).mp b
      exact absurd hy q
    · obtain ⟨_, q⟩ := (G.out x hxE hx y).mp b
      exact ⟨hxE, hx, q, (B.dom x).mpr a, by rw [c]; rfl⟩
  · intro x y hv hx
    obtain ⟨a, b, c⟩ := B.cam x y hv
    have hyE := B.inE y a
    by_cases hy : y ∈ I
    · obtain ⟨p, _, q⟩ := (G.inn y hy x).mp b
      exact ⟨p, hy, q, (B.dom y).mpr a, by rw [c]; rfl⟩
    · obtain ⟨p, _⟩ := (G.out y hyE hy x).mp b
      exact absurd p hx
  · intro v hv
    exact B.pos v ((B.dom v).mp hv)
/-- no way: the things that are come to tell a greatest lot -/
theorem fin_max {r1 r2 : List α → Nat} (R1 : IsRk r1) (R2 : IsRk r2) {E I U : List α} {w : α → Int} {re : α → Prop} {L : α → Int × Int} (h1 : Ind r1 I) (h2 : Ind r2 I) (sI : ∀ x, x ∈ I → x ∈ E) (A : Lab r1 r2 E I w re L)
    (hU : ∀ x, x ∈ U ↔ (x ∈ E ∧ re x)) (no : ∀ x, x ∈ E → x ∉ I → Ind r2 (x :: I) → ¬ re x) : r1 (rem E U) + r2 U = I.length :=
  reach_sum R1 R2 h1 h2 sI (fun x hx => ((hU x).mp hx).1) (fun x hx hxi hf => (hU x).mpr ⟨hx, (A.src x hx hxi hf).1⟩)
    (fun y hy hyU x hx hxi ex => (hU x).mpr ⟨hx, (A.e1 y hy x hx hxi ex ((hU y).mp hyU).2).1⟩)
    (fun x hx hxi hxU y hy ex => (hU y).mpr ⟨sI y hy, (A.e2 x hx hxi y hy ex ((hU x).mp hxU).2).1⟩)
    fun x hx hxi hxU hf => no x hx hxi hf ((hU x).mp hxU).2
/-- no way forward: none of the things from which an end is come to begins -/
theorem back_no {r1 r2 : List α → Nat} {E I : List α} {w w' : α → Int} {cm cm' : α → Option (Option α)} {L L' : α → Int × Int} (sI : ∀ x, x ∈ I → x ∈ E) (F : Fin r1 r2 E I w cm L) (B : Fin r2 r1 E I w' cm' L')
    (no : ∀ x, x ∈ E → x ∉ I → Ind r2 (x :: I) → ¬ cm x ≠ none) : ∀ (n : Nat) (v : α), (L' v).2.toNat ≤ n → cm' v ≠ none → cm v = none := by
  intro n
  induction n with
  | zero =>
    intro v hn hv
    have := B.pos v hv
    omega
  | succ n ih =>
    intro v hn hv
    apply Classical.byContradiction
    intro hc
    cases e : cm' v with
    | none => exact hv e
    | some o =>
      cases o with
      | none =>
        obtain ⟨a, b, c, _⟩ := B.beg v e
        exact no v a b c hc
      | some u =>
        obtain ⟨f1, f2⟩ := B.falls e
        have hu := ih u (by have := B.pos u f2; omega) f2
        by_cases hv' : v ∈ I
        · obtain ⟨a, b, c, _, _⟩ := B.inn v u e hv'
          exact (F.lab.e1 v hv' u a b c hc).1 hu
        · obtain ⟨a, b, c, _, _⟩ := B.out v u e hv'
          exact (F.lab.e2 v a hv' u b c hc).1 hu
end Bf
set_option Elab.async false
set_option maxHeartbeats 4000000
set_option linter.all false
/-! the plain laws behind both.py's defs -/
namespace Bm
open PySem PySem.Spec PyProof.Rows Bs Bf
/-- is_free_tuple -/
def fre (r : List Str → Nat) (A : List Str) : Bool := decide (r A = A.length)
def outs (r : List Str → Nat) (nm A : List Str) : List Str := (les nm A).filter fun x => fre r (wth A x)
def aft (r1 r2 : List Str → Nat) (nm A : List Str) (t : Str) : List Str :=
  if t ∈ A then (les nm A).filter fun x => fre r1 (wth (les A [t]) x) else A.filter fun y => fre r2 (wth (les A [y]) t)
section
variable {r r1 r2 : List Str → Nat} {nm A : List Str}
theorem fre_iff {A : List Str} : fre r A = true ↔ Ind r A := by unfold fre Ind; rw [decide_eq_true_iff]
theorem ind_perm (R : IsRk r) {A B : List Str} (h : ∀ x, x ∈ A ↔ x ∈ B) (l : A.length = B.length) : Ind r A ↔ Ind r B := by
  unfold Ind; rw [R.ext A B h, l]
theorem fre_wth (R : IsRk r) {A : List Str} {x : Str} : fre r (wth A x) = true ↔ Ind r (x :: A) := by
  rw [fre_iff]
  refine ind_perm R (fun z => ?_) (by rw [wth_len]; rfl)
  rw [mem_wth, List.mem_cons]
  exact Or.comm
theorem fre_chg (R : IsRk r) {A : List Str} {y x : Str} : fre r (wth (les A [y]) x) = true ↔ Ex r A y x := fre_wth R
theorem gph (R1 : IsRk r1) (R2 : IsRk r2) : Gph r1 r2 nm A (outs r1 nm A) (aft r1 r2 nm A) where
  src := fun x => by
    unfold outs
    rw [List.mem_filter, mem_les, fre_wth R1, and_assoc]
  inn := fun y hy x => by
    unfold aft
    rw [if_pos hy, List.mem_filter, mem_les, fre_chg R1, and_assoc]
  out := fun x hx hxi y => by
    unfold aft
    rw [if_neg hxi, List.mem_filter, fre_chg R2]
theorem aft_in (hA : Lot nm A) (t f : Str) (h : f ∈ aft r1 r2 nm A t) : f ∈ nm := by
  unfold aft at h
  split at h
  · exact (mem_les.mp (List.mem_filter.mp h).1).1
  · exact hA.sub (List.mem_filter.mp h).1
theorem outs_in (f : Str) (h : f ∈ outs r nm A) : f ∈ nm := (mem_les.mp (List.mem_filter.mp h).1).1
theorem outs_nd (n : SS nm) : (outs r nm A).Nodup := (n.nodup.filter _).filter _
/-- no way forward -/
def NoFwd (r1 r2 : List Str → Nat) (nm A : List Str) : Prop := ∃ (w : Str → Int) (cm : Str → Option (Option Str)) (L : Str → Int × Int), Fin r1 r2 nm A w cm L ∧ ∀ x, x ∈ nm → x ∉ A → Ind r2 (x :: A) → ¬ cm x ≠ none
/-- a way by which a lot grows -/
structure Good (r1 r2 : List Str → Nat) (nm A : List Str) (w : Str → Int) (l : List Str) : Prop where
  nd : l.Nodup
  sub : ∀ x, x ∈ l → x ∈ nm
  grow : ∀ J : List Str, J.Nodup → (∀ z, z ∈ J ↔ ((z ∈ A ∧ z ∉ l) ∨ (z ∈ l ∧ z ∉ A))) → Ind r1 J ∧ Ind r2 J ∧ J.length = A.length + 1 ∧ (∀ x, x ∈ J → x ∈ nm) ∧ (ExtW r1 r2 nm w A → ExtW r1 r2 nm w J)
/-- the number falls along the list -/
theorem bk_nd {w : Str → Int} {cm : Str → Option (Option Str)} {L : Str → Int × Int} (F : Fin r1 r2 nm A w cm L) : ∀ (l : List Str) (x : Str), Bk cm (x :: l) → (x :: l).Nodup ∧ cm x ≠ none ∧ ∀ y, y ∈ l → (L y).2 < (L x).2 ∧ cm y ≠ none
  | [], x, h => ⟨by simp, (by
      have : cm x = some none := h
      rw [this]; simp), fun y hy => by cases hy⟩
  | u :: l, x, h => by
    obtain ⟨h1, h2⟩ := h
    obtain ⟨a, b, c⟩ := bk_nd F l u h2
    obtain ⟨f1, f2⟩ := F.falls h1
    have all : ∀ y, y ∈ u :: l → (L y).2 < (L x).2 ∧ cm y ≠ none := fun y hy => by
      rcases List.mem_cons.mp hy with e | e
      · exact e ▸ ⟨f1, f2⟩
      · exact ⟨by have := (c y e).1; omega, (c y e).2⟩
    refine ⟨List.nodup_cons.mpr ⟨fun q => ?_, a⟩, by rw [h1]; simp, all⟩
    have := (all x q).1
    omega
theorem fin_in {w : Str → Int} {cm : Str → Option (Option Str)} {L : Str → Int × Int} (F : Fin r1 r2 nm A w cm L) (sA : ∀ x, x ∈ A → x ∈ nm) {v : Str} (h : cm v ≠ none) : v ∈ nm := by
  cases e : cm v with
  | none => exact absurd e h
  | some o =>
    cases o with
    | none => exact (F.beg v e).1
    | some u =>
      by_cases hv : v ∈ A
      · exact sA v hv
      · exact (F.out v u e hv).1
theorem good_of (R1 : IsRk r1) (R2 : IsRk r2) (h1 : Ind r1 A) (h2 : Ind r2 A) (sA : ∀ x, x ∈ A → x ∈ nm) {w : Str → Int} {cm : Str → Option (Option Str)} {L : Str → Int × Int} (F : Fin r1 r2 nm A w cm L) {x : Str} {p : List Str} (hb : Bk cm (x :: p))
    (hx : x ∉ A) (hm : Ind r2 (x :: A)) (hmin : ∀ y, y ∈ nm → y ∉ A → Ind r2 (y :: A) → cm y ≠ none → kle (L x) (L y)) {l : List Str} (pl : l.Perm (x :: p)) : Good r1 r2 nm A w l := by
  obtain ⟨a, b, c⟩ := bk_nd F p x hb
  refine ⟨pl.nodup_iff.mpr a, fun y hy => ?_, fun J nJ eJ => ?_⟩
  · rcases List.mem_cons.mp (pl.mem_iff.mp hy) with e | e
    · exact fin_in F sA (e ▸ b)
    · exact fin_in F sA (c y e).2
  · refine fin_step R1 R2 h1 h2 sA F hb hx hm hmin nJ fun z => ?_
    rw [eJ z, pl.mem_iff]
/-- none greater -/
theorem nofwd_max (R1 : IsRk r1) (R2 : IsRk r2) (h1 : Ind r1 A) (h2 : Ind r2 A) (sA : ∀ x, x ∈ A → x ∈ nm) (h : NoFwd r1 r2 nm A) (J : List Str) (j1 : Ind r1 J) (j2 : Ind r2 J) (s : ∀ x, x ∈ J → x ∈ nm) : J.length ≤ A.length := by
  obtain ⟨w, cm, L, F, no⟩ := h
  let U := nm.filter fun v => decide (cm v ≠ none)
  have e := fin_max R1 R2 (U := U) h1 h2 sA F.lab (fun x => by show x ∈ nm.filter _ ↔ _; rw [List.mem_filter, decide_eq_true_iff]) no
  have := le_sum R1 R2 (E := nm) (U := U) j1 j2 s
  omega
/-- the things from which an end is come to show it -/
theorem back_sum (R1 : IsRk r1) (R2 : IsRk r2) (h1 : Ind r1 A) (h2 : Ind r2 A) (sA : ∀ x, x ∈ A → x ∈ nm) (h : NoFwd r1 r2 nm A) {ks : List Str} {cm' : Str → Option (Option Str)} {d : Str → Int}
    (B : BEnd (outs r2 nm A) (aft r2 r1 nm A) nm ks cm' d) : r1 ks + r2 (les nm ks) = A.length := by
  obtain ⟨w, cm, L, F, no⟩ := h
  have F' := bs_fin (gph R2 R1) sA B
  have e := fin_max R2 R1 (U := ks) h2 h1 sA F'.lab (fun x => ⟨fun q => ⟨B.inE x q, (B.dom x).mpr q⟩, fun q => (B.dom x).mp q.2⟩) fun x hx hxi hf hc => by
    have := back_no sA F F' no _ x (Nat.le_refl _) hc
    exact (F.lab.src x hx hxi hf).1 this
  have : r2 (les nm ks) + r1 ks = A.length := e
  omega
/-- a breadth search's list has as many things as its label -/
theorem bk_len {src : List Str} {adj : Str → List Str} {ks : List Str} {cm : Str → Option (Option Str)} {d : Str → Int} (B : BEnd src adj nm ks cm d) : ∀ (l : List Str) (x : Str), Bk cm (x :: l) → (((x :: l).length : Nat) : Int) = d x
  | [], x, h => by
    have := (B.beg x h).2
    rw [this]; rfl
  | u :: l, x, h => by
    have ih := bk_len B l u h.2
    have := (B.cam x u h.1).2.2
    rw [List.length_cons] at ih ⊢
    rw [List.length_cons]
    omega
end
end Bm
set_option Elab.async false
set_option linter.all false
set_option maxRecDepth 100000
set_option maxHeartbeats 4000000
/-! families: things, new ones, free lots -/
namespace Bw
open PySem PySem.Spec PyProof.Rows L2 Bt Bs Bm
/-! ### texts compared as data -/
theorem dp_strs {K : PySem.W.Frag} {H : Hp} : ∀ A : List Str, DpAll K H (A.map V.str) (A.map PyData.str)
  | [] => .nil
  | _ :: A => .cons (.str _) (dp_strs A)
theorem eqvAll_strs : ∀ A B : List Str, PyData.eqvAll (A.map PyData.str) (B.map PyData.str) = decide (A = B)
  | [], [] => rfl
  | [], _ :: _ => rfl
  | _ :: _, [] => rfl
  | a :: A, b :: B => by
    show (a == b && PyData.eqvAll (A.map PyData.str) (B.map PyData.str)) = _
    rw [eqvAll_strs A B]
    by_cases h : a = b
    · subst h; simp
    · simp [h]
theorem canLay_strs : ∀ A : List Str, (∀ x, x ∈ A → PyData.strOk x = true) → PyData.canLayAll0 (A.map PyData.str) = true
  | [], _ => by simp [PyData.canLayAll0]
  | a :: A, h => by
    simp only [List.map_cons, PyData.canLayAll0, PyData.canLay0, canLay_strs A fun x hx => h x (List.mem_cons_of_mem _ hx), h a List.mem_cons_self, Bool.and_true]
theorem depth_strs : ∀ A : List Str, PyData.depthAll (A.map PyData.str) ≤ 1
  | [] => by simp [PyData.depthAll]
  | a :: A => by
    have := depth_strs A
    simp only [List.map_cons, PyData.depthAll, PyData.depth]
    omega
theorem shaped_strs {A : List Str} (h : ∀ x, x ∈ A → PyData.strOk x = true) : SeqAt.shaped (.list (A.map PyData.str)) = true := by
  have h1 := depth_strs A
  have h2 : PyData.depth (.list (A.map PyData.str)) ≤ 64 := by simp only [PyData.depth]; omega
  show (PyData.canLay0 (.list (A.map PyData.str)) && decide (PyData.depth (.list (A.map PyData.str)) ≤ 64)) = true
  rw [Bool.and_eq_true]
  exact ⟨by simp only [PyData.canLay0]; exact canLay_strs A h, decide_eq_true h2⟩
theorem shaped_strsT {A : List Str} (h : ∀ x, x ∈ A → PyData.strOk x = true) : SeqAt.shaped (.tuple (A.map PyData.str)) = true := by
  have h1 := depth_strs A
  have h2 : PyData.depth (.tuple (A.map PyData.str)) ≤ 64 := by simp only [PyData.depth]; omega
  show (PyData.canLay0 (.tuple (A.map PyData.str)) && decide (PyData.depth (.tuple (A.map PyData.str)) ≤ 64)) = true
  rw [Bool.and_eq_true]
  exact ⟨by simp only [PyData.canLay0]; exact canLay_strs A h, decide_eq_true h2⟩
/-- x != y of two lists of texts -/
theorem ne_strs {K : PySem.W.Frag} {H : Hp} {a b : Addr} {A B : List Str} {Q : VK} (ha : H a = some (.lst (A.map V.str))) (hb : H b = some (.lst (B.map V.str))) (oa : ∀ x, x ∈ A → PyData.strOk x = true) (ob : ∀ x, x ∈ B → PyData.strOk x = true) (q : Q (.bl (!decide (A = B))) H) :
    rNeD K (.ref a) (.ref b) H Q :=
  ⟨_, _, .lst (SqL.of ha) (dp_strs A), .lst (SqL.of hb) (dp_strs B), shaped_strs oa, shaped_strs ob, by
    show Q (.bl (!PyData.eqvAll (A.map PyData.str) (B.map PyData.str))) H
    rw [eqvAll_strs]; exact q⟩
/-! ### drawn ranks -/
theorem drw_rk {r : List Str → Nat} (h : Bf.IsRk r) (L : List Str) : Bf.IsRk (drwRk r L) where
  nil := by unfold drwRk; rw [List.nil_append]; omega
  ext := fun A B e => by
    unfold drwRk
    rw [h.ext (A ++ L) (B ++ L) fun x => by simp [e x]]
  le1 := fun x A => by
    have := h.le1 x (A ++ L)
    unfold drwRk
    rw [List.cons_append]; omega
  ge := fun x A => by
    have := h.ge x (A ++ L)
    unfold drwRk
    rw [List.cons_append]; omega
  loc := fun x y A e1 e2 => by
    unfold drwRk at *
    rw [List.cons_append] at *
    rw [List.cons_append]
    have g := h.app_ge A L
    have g1 := h.ge x (A ++ L)
    have g2 := h.ge y (A ++ L)
    rw [h.loc x y (A ++ L) (by omega) (by omega)]
theorem drw_ind {r : List Str → Nat} (h : Bf.IsRk r) {L A : List Str} (hL : Bf.Ind r L) : Bf.Ind (drwRk r L) A ↔ Bf.Ind r (A ++ L) := by
  have g := h.app_ge A L
  unfold Bf.Ind drwRk at *
  rw [List.length_append]
  omega
section
variable {P : Program} {w : World} {K : PySem.W.Frag} {mg : Str → Option Value} {base : Heap}
theorem Kp.weak {R R' : Reg} {H H' : Hp} (sub : ∀ a y, R a = some y → R' a = some y) (w : WInv R H) (k : Kp R' H H') : Kp R H H' := ⟨w, fun d nm r e => k.w d nm r (sub d _ e), k.ex⟩

/-! ### things -/
def spThings (K : PySem.W.Frag) : Sp := fun vs H Q _ => ∃ (R : Reg) (p : Addr) (nm : List Str) (r : List Str → Nat), vs = [.ref p] ∧ WInv R H ∧ FamS K R H p nm r ∧ ∀ H' l, Kp R H H' → H l = none → H' l = some (.lst (nm.map V.str)) → Q (.ref l) H'
abbrev N_Family_things : List Str := ["self"]
theorem sc_Family_things : FnScope N_Family_things ["self"] (defScope s_Family_things) := ⟨rfl, rfl, rfl, by decide +kernel, rfl, by decide +kernel, by decide +kernel⟩
theorem c_Family_things (T : Txt K mg) : CallM P w K mg base 1 "Family" "things" ["self"] (spThings K) := by
  refine mkMeth T.m_Family_things sc_Family_things (fun _ _ _ _ _ _ us hl => match us, hl with | [_], _ => rfl) (fun vs H Q E h => ?_) (fun cdv A outer s H vs Q E hr h => ?_)
  · obtain ⟨R, p, nm, r, rfl, _⟩ := h; rfl
  · obtain ⟨R, p, nm, r, rfl, wi, hF, q⟩ := h
    obtain ⟨q0, hO, _⟩ := hF.src
    obtain ⟨dx, a, d, h1, h2, h3⟩ := hO.ob
    refine ⟨_, (pss_one (ps_ret (pe_callTy call_list_of (by rfl) T.f_list bt_list (pa_cons (pe_fld (pv 0) rfl) pa_nil)))), ?_⟩
    refine ⟨_, rfl, p, _, dx, _, _, rfl, h1, T.c_Family, T.n_Family_names, rfl, ?_⟩
    exact ⟨a, _, rfl, .inr (SqT.of h2), fun l nl => q _ l (Kp.upd wi nl) nl upd_same⟩

/-! ### the registry grows -/
def Ext (R R' : Reg) : Prop := ∀ a y, R a = some y → R' a = some y
theorem Ext.refl (R : Reg) : Ext R R := fun _ _ h => h
theorem Ext.trans {R R1 R2 : Reg} (a : Ext R R1) (b : Ext R1 R2) : Ext R R2 := fun c y h => b c y (a c y h)
section
variable {R R' : Reg} {H H' H0 H1 : Hp} {p q a : Addr} {nm : List Str} {r : List Str → Nat}
theorem FamO.ext (e : Ext R R') (h : FamO K R H p q nm r) : FamO K R' H p q nm r := by
  obtain ⟨⟨dx, a, d, h1, h2, h3⟩, e1, e2, e3, e4⟩ := h
  exact ⟨⟨dx, a, d, h1, h2, e _ _ h3⟩, e1, e2, e3, e4⟩
theorem FamB.ext (e : Ext R R') (h : FamB K R H p nm r) : FamB K R' H p nm r := by
  obtain ⟨q, h1, h2⟩ := h.src
  exact ⟨q, h1.ext e, h2⟩
theorem FamS.ext (e : Ext R R') (h : FamS K R H p nm r) : FamS K R' H p nm r := by
  obtain ⟨q, h1, h2⟩ := h.src
  exact ⟨q, h1.ext e, h2.imp id fun ⟨dx, p', t, nm', r', L, a, b, f, e'⟩ => ⟨dx, p', t, nm', r', L, a, b, f.ext e, e'⟩⟩
theorem FamS.o (h : FamS K R H p nm r) : ∃ q, FamO K R H p q nm r := by
  obtain ⟨q, h1, _⟩ := h.src
  exact ⟨q, h1⟩
theorem FamS.ss (h : FamS K R H p nm r) : SS nm := by obtain ⟨q, h1⟩ := h.o; exact h1.ss
theorem FamS.l8 (h : FamS K R H p nm r) : nm.length ≤ 8 := by obtain ⟨q, h1⟩ := h.o; exact h1.l8
theorem FamS.rk (h : FamS K R H p nm r) : Bf.IsRk r := by obtain ⟨q, h1⟩ := h.o; exact h1.rk
theorem FamS.ok (h : FamS K R H p nm r) : ∀ x, x ∈ nm → PyData.strOk x = true := by obtain ⟨q, h1⟩ := h.o; exact h1.ok
/-- where a family's names stand -/
theorem FamS.nmA (h : FamS K R H p nm r) : ∃ dx a q d, H p = some (.ins (He.ga K "Family") dx (ffs a q d)) ∧ H a = some (.tup (nm.map V.str)) := by
  obtain ⟨q, h1⟩ := h.o
  obtain ⟨dx, a, d, e1, e2, _⟩ := h1.ob
  exact ⟨dx, a, q, d, e1, e2⟩
end

/-! ### Family(..), Drawn(..) -/
def spFamInit (K : PySem.W.Frag) : Sp := fun vs H Q _ => ∃ (R : Reg) (H0 : Hp) (p a q dx : Addr) (nm : List Str), vs = [.ref p, .ref a, .ref q] ∧ Kp R H0 H ∧ H0 p = none ∧ H p = some (.ins (He.ga K "Family") dx []) ∧
  (H a = some (.lst (nm.map V.str)) ∨ H a = some (.tup (nm.map V.str))) ∧
  ∀ H' t d, Kp R H0 H' → H0 d = none → H' p = some (.ins (He.ga K "Family") dx (ffs t q d)) → H' t = some (.tup (nm.map V.str)) → H' d = some (.dT []) → Q .non H'
abbrev N_Family_init : List Str := ["self", "names", "world"]
theorem sc_Family_init : FnScope N_Family_init ["self", "names", "world"] (defScope s_Family_init) := ⟨rfl, rfl, rfl, by decide +kernel, rfl, by decide +kernel, by decide +kernel⟩
theorem c_Family_init (T : Txt K mg) : CallM P w K mg base 1 "Family" "__init__" ["self", "names", "world"] (spFamInit K) := by
  refine mkMeth T.m_Family_init sc_Family_init (fun _ _ _ _ _ _ us hl => match us, hl with | [_, _, _], _ => rfl) (fun vs H Q E h => ?_) (fun cdv A outer s H vs Q E hr h => ?_)
  · obtain ⟨R, H0, p, a, q, dx, nm, rfl, _⟩ := h; rfl
  · obtain ⟨R, H0, p, a, o, dx, nm, rfl, k, h0, h1, ha, q⟩ := h
    have hu := hu_of hr
    refine ⟨_, (pss_cons (ps_fld (pv 0) (pe_callTy call_tuple_of (by rfl) T.f_tuple bt_tuple (pa_cons (pv 1) pa_nil)) rfl)
      (pss_cons (ps_fld (pv 0) (pv 2) rfl)
      (pss_one (ps_fld (pv 0) pe_dnewT rfl)))), ?_⟩
    have fin : ∀ (t : Addr) (H1 : Hp), Kp R H0 H1 → H1 p = some (.ins (He.ga K "Family") dx []) → H1 t = some (.tup (nm.map V.str)) → ∀ d, H1 d = none → ∀ (o1 : HO), 
        Q .non (upd (upd (upd (upd H1 p (.ins (He.ga K "Family") dx [("names", .ref t)])) p (.ins (He.ga K "Family") dx [("names", .ref t), ("source", .ref o)])) d (.dT [])) p (.ins (He.ga K "Family") dx (ffs t o d))) := by
      intro t H1 k1 hp ht d hd o1
      have npt : t ≠ p := fun e => by rw [e, hp] at ht; cases ht
      have npd : d ≠ p := ne_of_none hp hd |>.symm
      have ntd : t ≠ d := ne_of_none ht hd
      have kd : Kp R H0 (upd (upd (upd H1 p (.ins (He.ga K "Family") dx [("names", .ref t)])) p (.ins (He.ga K "Family") dx [("names", .ref t), ("source", .ref o)])) d (.dT [])) :=
        ((k1.mut h0).mut h0).mut (k1.fr hd)
      exact q _ t d (kd.mut h0) (k1.fr hd) upd_same (by rw [upd_ne npt, upd_ne ntd, upd_ne npt, upd_ne npt]; exact ht) (by rw [upd_ne npd]; exact upd_same)
    rcases ha with ha | ha
    · refine ⟨_, rfl, a, _, rfl, .inl ⟨SqL.of ha, fun t nt => ?_⟩⟩
      have np : p ≠ t := ne_of_none h1 nt
      refine ⟨_, rfl, p, _, dx, _, rfl, by rw [upd_ne np]; exact h1, T.c_Family, T.n_Family_names, (by show (0 : Nat) < 1000; decide), ?_⟩
      refine ⟨_, rfl, _, rfl, p, _, dx, _, rfl, upd_same, T.c_Family, T.n_Family_source, (by show (1 : Nat) < 1000; decide), ?_⟩
      intro d nd
      have ndp : p ≠ d := ne_of_none upd_same nd
      refine ⟨_, rfl, p, _, dx, _, rfl, by rw [upd_ne ndp]; exact upd_same, T.c_Family, T.n_Family_counted, (by show (2 : Nat) < 1000; decide), ?_⟩
      have nd1 : (upd H t (.tup (nm.map V.str))) d = none := by
        rw [upd_ne ndp.symm, upd_ne ndp.symm] at nd; exact nd
      exact fin t _ (k.new nt) (by rw [upd_ne np]; exact h1) upd_same d nd1 (.dT [])
    · refine ⟨_, rfl, a, _, rfl, .inr ⟨SqT.of ha, ?_⟩⟩
      refine ⟨_, rfl, p, _, dx, _, rfl, h1, T.c_Family, T.n_Family_names, (by show (0 : Nat) < 1000; decide), ?_⟩
      refine ⟨_, rfl, _, rfl, p, _, dx, _, rfl, upd_same, T.c_Family, T.n_Family_source, (by show (1 : Nat) < 1000; decide), ?_⟩
      intro d nd
      have ndp : p ≠ d := ne_of_none upd_same nd
      refine ⟨_, rfl, p, _, dx, _, rfl, by rw [upd_ne ndp]; exact upd_same, T.c_Family, T.n_Family_counted, (by show (2 : Nat) < 1000; decide), ?_⟩
      have nd1 : H d = none := by
        rw [upd_ne ndp.symm, upd_ne ndp.symm] at nd; exact nd
      exact fin a _ k h1 ha d nd1 (.dT [])
def spDrawnInit (K : PySem.W.Frag) : Sp := fun vs H Q _ => ∃ (R : Reg) (H0 : Hp) (p q t dx : Addr), vs = [.ref p, .ref q, .ref t] ∧ Kp R H0 H ∧ H0 p = none ∧ H p = some (.ins (He.ga K "Drawn") dx []) ∧
  ∀ H', Kp R H0 H' → H' p = some (.ins (He.ga K "Drawn") dx [("inner", .ref q), ("lot", .ref t)]) → Q .non H'
abbrev N_Drawn_init : List Str := ["self", "family", "lot"]
theorem sc_Drawn_init : FnScope N_Drawn_init ["self", "family", "lot"] (defScope s_Drawn_init) := ⟨rfl, rfl, rfl, by decide +kernel, rfl, by decide +kernel, by decide +kernel⟩
theorem c_Drawn_init (T : Txt K mg) : CallM P w K mg base 1 "Drawn" "__init__" ["self", "family", "lot"] (spDrawnInit K) := by
  refine mkMeth T.m_Drawn_init sc_Drawn_init (fun _ _ _ _ _ _ us hl => match us, hl with | [_, _, _], _ => rfl) (fun vs H Q E h => ?_) (fun cdv A outer s H vs Q E hr h => ?_)
  · obtain ⟨R, H0, p, a, q, dx, rfl, _⟩ := h; rfl
  · obtain ⟨R, H0, p, o, t, dx, rfl, k, h0, h1, q⟩ := h
    refine ⟨_, (pss_cons (ps_fld (pv 0) (pv 1) rfl)
      (pss_one (ps_fld (pv 0) (pv 2) rfl))), ?_⟩
    refine ⟨_, rfl, _, rfl, p, _, dx, _, rfl, h1, T.c_Drawn, T.n_Drawn_inner, (by show (0 : Nat) < 1000; decide), ?_⟩
    refine ⟨_, rfl, _, rfl, p, _, dx, _, rfl, upd_same, T.c_Drawn, T.n_Drawn_lot, (by show (1 : Nat) < 1000; decide), ?_⟩
    exact q _ ((k.mut h0).mut h0) upd_same
/-- Family(names, world), behind its arguments: a registry that has its memo too -/
theorem make_fam {R : Reg} {H : Hp} {a o : Addr} {nm : List Str} {r : List Str → Nat} {Q : VK} {E : XK} (wi : WInv R H) (ha : H a = some (.lst (nm.map V.str)) ∨ H a = some (.tup (nm.map V.str))) (ss : SS nm) (l8 : nm.length ≤ 8) (rk : Bf.IsRk r) (ok : ∀ x, x ∈ nm → PyData.strOk x = true)
    (q : ∀ H' p R', Ext R R' → Kp R H H' → WInv R' H' → H p = none → FamO K R' H' p o nm r → Q (.ref p) H') :
    ∀ x dx, H x = none → H dx = none → dx ≠ x → spFamInit K (.ref x :: ([.ref a, .ref o] ++ [])) (upd (upd H dx (.own x)) x (.ins (He.ga K "Family") dx [])) (fun v H2 => v = .non ∧ Q (.ref x) H2) E := by
  intro x dx hx hdx hne
  have na : a ≠ x := ha.elim (fun z => ne_of_none z hx) fun z => ne_of_none z hx
  have nad : a ≠ dx := ha.elim (fun z => ne_of_none z hdx) fun z => ne_of_none z hdx
  have k1 : Kp R H (upd H dx (.own x)) := Kp.upd wi hdx
  have k2 : Kp R H (upd (upd H dx (.own x)) x (.ins (He.ga K "Family") dx [])) := k1.mut hx
  refine ⟨R, H, x, a, o, dx, nm, rfl, k2, hx, upd_same, ?_, fun H' t d k hd h1 h2 h3 => ⟨rfl, ?_⟩⟩
  · rw [upd_ne na, upd_ne nad]; exact ha
  let R' : Reg := fun b => if b = d then some (nm, r) else R b
  have ext : Ext R R' := fun b y hb => by
    show (if b = d then some (nm, r) else R b) = some y
    rw [if_neg (wi.ne hb hd)]; exact hb
  refine q H' x R' ext k (fun c nm' r' hc => ?_) hx ⟨⟨dx, t, d, h1, h2, if_pos rfl⟩, ss, l8, rk, ok⟩
  have hc' : (if c = d then some (nm, r) else R c) = some (nm', r') := hc
  by_cases e : c = d
  · rw [if_pos e] at hc'
    cases hc'
    exact ⟨[], by rw [e]; exact h3, ⟨List.nodup_nil, fun k v hv => by cases hv⟩⟩
  · rw [if_neg e] at hc'
    exact k.w c nm' r' hc'
/-! ### without, drawn_in -/
/-- the things but x; what is drawn in: L -/
def spDrawn (K : PySem.W.Frag) (L : Str → List Str) : Sp := fun vs H Q _ => ∃ (R : Reg) (p l : Addr) (nm : List Str) (r : List Str → Nat) (x : Str), vs = [.ref p, .ref l] ∧ WInv R H ∧ FamB K R H p nm r ∧ H l = some (.lst [.str x]) ∧ x ∈ nm ∧
  ∀ R' H' p', Ext R R' → Kp R H H' → WInv R' H' → FamS K R' H' p' (les nm [x]) (drwRk r (L x)) → Q (.ref p') H'
theorem srt_one (x : Str) : srt [x] = [x] := rfl
abbrev N_without : List Str := ["family", "lot"]
theorem sc_without : FnScope N_without ["family", "lot"] (defScope s_without) := ⟨rfl, rfl, rfl, by decide +kernel, rfl, by decide +kernel, by decide +kernel⟩
theorem c_without (T : Txt K mg) : Call P w K mg base 3 "without" ["family", "lot"] (spDrawn K fun _ => []) := by
  obtain ⟨ff, F_Family, b_Family⟩ := (c_Family_init (P := P) (w := w) (base := base) T).ex
  obtain ⟨fd, F_Drawn, b_Drawn⟩ := (c_Drawn_init (P := P) (w := w) (base := base) T).ex
  refine mkCall T.d_without sc_without (fun _ _ _ _ _ _ us hl => match us, hl with | [_, _], _ => rfl) (fun vs H Q E h => ?_) (fun cdv A outer s H vs Q E hr h => ?_)
  · obtain ⟨R, p, l, nm, r, x, rfl, _⟩ := h; rfl
  · obtain ⟨R, p, l, nm, r, x, rfl, wi, hF, hl, hx, q⟩ := h
    obtain ⟨q0, hO, hB⟩ := hF.src
    obtain ⟨⟨dx, a, d, h1, h2, h3⟩, ss, l8, rk, ok⟩ := id hO
    refine ⟨_, (pss_one (ps_ret (pe_make T.k_Family F_Family (hr.mono (by decide)) (by rfl) T.g_Family b_Family .nil pass0 (pa_cons (pe_f (c_less T) hr (pa_cons (pe_fld (pv 0) rfl) (pa_cons (pe_f (c_need_lot T) hr (pa_cons (pe_fld (pv 0) rfl) (pa_cons (pv 1) pa_nil))) pa_nil))) (pa_cons (pe_make T.k_Drawn F_Drawn (hr.mono (by decide)) (by rfl) T.g_Drawn b_Drawn .nil pass0 (pa_cons (pv 0) (pa_cons (pe_tup pa_nil) pa_nil))) pa_nil))))), ?_⟩
    refine ⟨_, rfl, p, _, dx, _, _, rfl, h1, T.c_Family, T.n_Family_names, rfl, _, rfl, p, _, dx, _, _, rfl, h1, T.c_Family, T.n_Family_names, rfl, _, rfl, ?_⟩
    refine ⟨R, l, a, nm, [x], rfl, wi, hl, h2, by simp, fun y hy => (by have := List.mem_singleton.mp hy; exact this ▸ hx), (show (1 : Nat) ≤ 60 by decide), fun H1 f k1 nf hf => ?_⟩
    refine ⟨R, a, f, nm, [x], rfl, k1.w, k1.at h2, .inl hf, by omega, fun H2 g k2 ng hg => ?_⟩
    refine ⟨_, rfl, by show 0 ≤ sizeLine; decide, fun t nt => ?_⟩
    have k3 := (k1.trans k2).new nt (o := .tup [])
    have hg3 := (Kp.upd k2.w nt (o := .tup [])).at hg
    refine fun u du nu ndu _ => ⟨R, _, u, p, t, du, rfl, (Kp.upd k3.w ndu).mut nu, nu, upd_same, fun H4 k4 hu4 => ⟨rfl, ?_⟩⟩
    refine make_fam (Q := Q) (K := K) (r := drwRk r []) k4.w (.inr (k4.at hg3)) (ss.filter _) (Nat.le_trans (List.length_filter_le _ _) l8) (drw_rk rk []) (fun y hy => ok y (mem_les.mp hy).1) fun H5 z R' ext k5 w5 nz hO5 => ?_
    have kk := (k3.trans k4).trans k5
    refine q R' H5 z ext kk w5 ⟨u, hO5, .inr ⟨du, p, t, nm, r, [], k5.at hu4, (k4.trans k5).at upd_same, (hF.mono kk).ext ext, lot_nil nm, fun y hy => ⟨(mem_les.mp hy).1, by simp⟩, rfl⟩⟩
abbrev N_drawn_in : List Str := ["family", "lot", "found"]
theorem sc_drawn_in : FnScope N_drawn_in ["family", "lot"] (defScope s_drawn_in) := ⟨rfl, rfl, rfl, by decide +kernel, rfl, by decide +kernel, by decide +kernel⟩
theorem c_drawn_in (T : Txt K mg) : Call P w K mg base 3 "drawn_in" ["family", "lot"] (spDrawn K fun x => [x]) := by
  obtain ⟨ff, F_Family, b_Family⟩ := (c_Family_init (P := P) (w := w) (base := base) T).ex
  obtain ⟨fd, F_Drawn, b_Drawn⟩ := (c_Drawn_init (P := P) (w := w) (base := base) T).ex
  refine mkCall T.d_drawn_in sc_drawn_in (fun _ _ _ _ _ _ us hl => match us, hl with | [_, _], _ => rfl) (fun vs H Q E h => ?_) (fun cdv A outer s H vs Q E hr h => ?_)
  · obtain ⟨R, p, l, nm, r, x, rfl, _⟩ := h; rfl
  · obtain ⟨R, p, l, nm, r, x, rfl, wi, hF, hl, hx, q⟩ := h
    obtain ⟨q0, hO, hB⟩ := hF.src
    obtain ⟨⟨dx, a, d, h1, h2, h3⟩, ss, l8, rk, ok⟩ := id hO
    refine ⟨_, (pss_cons (ps_set (i := 2) sc_drawn_in.nd rfl (Or.inl rfl) (pe_f (c_need_lot T) hr (pa_cons (pe_fld (pv 0) rfl) (pa_cons (pv 1) pa_nil))))
      (pss_one (ps_ret (pe_make T.k_Family F_Family (hr.mono (by decide)) (by rfl) T.g_Family b_Family .nil pass0 (pa_cons (pe_f (c_less T) hr (pa_cons (pe_fld (pv 0) rfl) (pa_cons (pv 2) pa_nil))) (pa_cons (pe_make T.k_Drawn F_Drawn (hr.mono (by decide)) (by rfl) T.g_Drawn b_Drawn .nil pass0 (pa_cons (pv 0) (pa_cons (pv 2) pa_nil))) pa_nil)))))), ?_⟩
    refine ⟨_, rfl, p, _, dx, _, _, rfl, h1, T.c_Family, T.n_Family_names, rfl, _, rfl, ?_⟩
    refine ⟨R, l, a, nm, [x], rfl, wi, hl, h2, by simp, fun y hy => (by have := List.mem_singleton.mp hy; exact this ▸ hx), (show (1 : Nat) ≤ 60 by decide), fun H1 f k1 nf hf => ?_⟩
    refine ⟨_, rfl, p, _, dx, _, _, rfl, k1.at h1, T.c_Family, T.n_Family_names, rfl, _, rfl, ?_⟩
    refine ⟨R, a, f, nm, [x], rfl, k1.w, k1.at h2, .inl hf, by omega, fun H2 g k2 ng hg => ?_⟩
    refine ⟨_, rfl, _, rfl, ?_⟩
    have k3 := k1.trans k2
    refine fun u du nu ndu _ => ⟨R, _, u, p, f, du, rfl, (Kp.upd k3.w ndu).mut nu, nu, upd_same, fun H4 k4 hu4 => ⟨rfl, ?_⟩⟩
    refine make_fam (Q := Q) (K := K) (r := drwRk r [x]) k4.w (.inr (k4.at hg)) (ss.filter _) (Nat.le_trans (List.length_filter_le _ _) l8) (drw_rk rk [x]) (fun y hy => ok y (mem_les.mp hy).1) fun H5 z R' ext k5 w5 nz hO5 => ?_
    have kk := (k3.trans k4).trans k5
    refine q R' H5 z ext kk w5 ⟨u, hO5, .inr ⟨du, p, f, nm, r, [x], k5.at hu4, ((k2.trans k4).trans k5).at hf, (hF.mono kk).ext ext, lot_of ss (by simp [SS]) (fun y hy => (by have := List.mem_singleton.mp hy; exact this ▸ hx)), fun y hy => mem_les.mp hy, rfl⟩⟩

/-! ### need_alike, is_free_tuple -/
def spNeedAlike (K : PySem.W.Frag) : Sp := fun vs H Q _ => ∃ (R : Reg) (p1 p2 : Addr) (nm : List Str) (r1 r2 : List Str → Nat), vs = [.ref p1, .ref p2] ∧ WInv R H ∧ FamS K R H p1 nm r1 ∧ FamS K R H p2 nm r2 ∧ ∀ H', Kp R H H' → Q .non H'
abbrev N_need_alike : List Str := ["one", "other"]
theorem sc_need_alike : FnScope N_need_alike ["one", "other"] (defScope s_need_alike) := ⟨rfl, rfl, rfl, by decide +kernel, rfl, by decide +kernel, by decide +kernel⟩
theorem c_need_alike (T : Txt K mg) : Call P w K mg base 2 "need_alike" ["one", "other"] (spNeedAlike K) := by
  obtain ⟨ft, F_c_Family_things, b_c_Family_things⟩ := (c_Family_things (P := P) (w := w) (base := base) T).ex
  refine mkCall T.d_need_alike sc_need_alike (fun _ _ _ _ _ _ us hl => match us, hl with | [_, _], _ => rfl) (fun vs H Q E h => ?_) (fun cdv A outer s H vs Q E hr h => ?_)
  · obtain ⟨R, p1, p2, nm, r1, r2, rfl, _⟩ := h; rfl
  · obtain ⟨R, p1, p2, nm, r1, r2, rfl, wi, hF1, hF2, q⟩ := h
    obtain ⟨dx1, a1, q1, d1, g1, _⟩ := hF1.nmA
    obtain ⟨dx2, a2, q2, d2, g2, _⟩ := hF2.nmA
    refine ⟨_, (pss_one (ps_if (pt_cmpR (op_neD hr.units) (pe_meth0 (pv 0) T.c_Family T.h_Family_things F_c_Family_things (hr.mono (by decide)) b_c_Family_things .nil pass0) (pe_meth0 (pv 1) T.c_Family T.h_Family_things F_c_Family_things (hr.mono (by decide)) b_c_Family_things .nil pass0) (nomark _)) (pss_one (ps_never)) pss_nil)), ?_⟩
    refine ⟨_, rfl, p1, dx1, _, rfl, g1, rfl, R, p1, nm, r1, rfl, wi, hF1, fun H1 l1 k1 n1 h1 => ?_⟩
    refine ⟨_, rfl, p2, dx2, _, rfl, k1.at g2, rfl, R, p2, nm, r2, rfl, k1.w, hF2.mono k1, fun H2 l2 k2 n2 h2 => ?_⟩
    refine ne_strs (k2.at h1) h2 hF1.ok hF1.ok ⟨_, rfl, ?_⟩
    rw [decide_eq_true (rfl : nm = nm)]
    exact iteF (q H2 (k1.trans k2))
def spFree (K : PySem.W.Frag) : Sp := fun vs H Q _ => ∃ (R : Reg) (p t : Addr) (nm A : List Str) (r : List Str → Nat), vs = [.ref p, .ref t] ∧ WInv R H ∧ FamS K R H p nm r ∧ H t = some (.tup (A.map V.str)) ∧ Lot nm A ∧ ∀ H', Kp R H H' → Q (.bl (fre r A)) H'
theorem dec_int (a b : Nat) : decide (V.int (a : Int) = V.int (b : Int)) = decide (a = b) := by
  by_cases h : a = b
  · subst h; simp
  · rw [decide_eq_false h, decide_eq_false fun e => h (by have := V.int.inj e; omega)]
abbrev N_is_free_tuple : List Str := ["family", "lot"]
theorem sc_is_free_tuple : FnScope N_is_free_tuple ["family", "lot"] (defScope s_is_free_tuple) := ⟨rfl, rfl, rfl, by decide +kernel, rfl, by decide +kernel, by decide +kernel⟩
theorem c_is_free_tuple (T : Txt K mg) : Call P w K mg base 7 "is_free_tuple" ["family", "lot"] (spFree K) := by
  obtain ⟨fr, F_c_Family_rank_of, b_c_Family_rank_of⟩ := (c_rank_of (P := P) (w := w) (base := base) T).ex
  refine mkCall T.d_is_free_tuple sc_is_free_tuple (fun _ _ _ _ _ _ us hl => match us, hl with | [_, _], _ => rfl) (fun vs H Q E h => ?_) (fun cdv A outer s H vs Q E hr h => ?_)
  · obtain ⟨R, p, t, nm, As, r, rfl, _⟩ := h; rfl
  · obtain ⟨R, p, t, nm, As, r, rfl, wi, hF, ht, hA, q⟩ := h
    obtain ⟨dx, a, o, d, g, _⟩ := hF.nmA
    refine ⟨_, (pss_one (ps_ret (pe_cmpR op_eq (pe_meth (pv 0) T.c_Family T.h_Family_rank_of F_c_Family_rank_of (hr.mono (by decide)) b_c_Family_rank_of .nil pass0 (pa_cons (pv 1) pa_nil)) (pe_callB call_len_seq (by rfl) T.f_len bt_len (pa_cons (pv 1) pa_nil)) (nomark _)))), ?_⟩
    refine ⟨_, rfl, p, dx, _, rfl, g, rfl, _, rfl, R, p, t, nm, As, r, rfl, wi, hF, ht, hA, fun H1 k1 => ?_⟩
    refine ⟨_, rfl, t, _, rfl, .inr (SqT.of (k1.at ht)), rfl, ?_⟩
    rw [List.length_map]
    show Q (.bl (decide (V.int ((r As : Nat) : Int) = V.int ((As.length : Nat) : Int)))) H1
    rw [dec_int]
    exact q H1 k1
end
end Bw
set_option Elab.async false
set_option linter.all false
set_option maxRecDepth 100000
set_option maxHeartbeats 4000000
/-! both.py: steps and the search in breadth -/
namespace Bw
open PySem PySem.Spec PyProof.Rows L2 Bt Bs Bm
section
variable {P : Program} {w : World} {K : PySem.W.Frag} {mg : Str → Option Value} {base : Heap}
def spOuter (K : PySem.W.Frag) : Sp := fun vs H Q _ => ∃ (R : Reg) (p t : Addr) (nm A : List Str) (r : List Str → Nat), vs = [.ref p, .ref t] ∧ WInv R H ∧ FamS K R H p nm r ∧ H t = some (.tup (A.map V.str)) ∧ Lot nm A ∧
  ∀ H' l, Kp R H H' → H l = none → H' l = some (.lst ((outs r nm A).map V.str)) → Q (.ref l) H'
abbrev N_outer_of : List Str := ["family", "lot", "thing"]
theorem sc_outer_of : FnScope N_outer_of ["family", "lot"] (defScope s_outer_of) := ⟨rfl, rfl, rfl, by decide +kernel, rfl, by decide +kernel, by decide +kernel⟩
theorem c_outer_of (T : Txt K mg) : Call P w K mg base 8 "outer_of" ["family", "lot"] (spOuter K) := by
  refine mkCall T.d_outer_of sc_outer_of (fun _ _ _ _ _ _ us hl => match us, hl with | [_, _], _ => rfl) (fun vs H Q E h => ?_) (fun cdv A outer s H vs Q E hr h => ?_)
  · obtain ⟨R, p, t, nm, As, r, rfl, _⟩ := h; rfl
  · obtain ⟨R, p, t, nm, As, r, rfl, wi, hF, ht, hA, q⟩ := h
    obtain ⟨dx, a, o, d, g, ha⟩ := hF.nmA
    have l8 := hF.l8
    have lA := lot_le hF.ss hA
    refine ⟨_, (pss_one (ps_ret (pe_lc (own := [("thing", 2)]) (by rfl) sc_outer_of.nd (pi_tup (pe_f (c_less T) hr (pa_cons (show PE _ _ (tFld K _ "names") from pe_fld (pv 0) rfl) (pa_cons (pv 1) pa_nil)))) (blkOk_by (own := [("thing", 2)]) (N := N_outer_of) (sc := defScope s_outer_of) (by decide +kernel)) (fun _ _ _ _ _ => (pg_name (i := 2) sc_outer_of.nd rfl (by first | exact Or.inl rfl | exact Or.inr rfl))) (fun _ _ _ _ _ => (pts_one (pt_val (pe_f (c_is_free_tuple T) hr (pa_cons (pv 0) (pa_cons (pe_f (c_with_thing T) hr (pa_cons (pv 1) (pa_cons (pv 2) pa_nil))) pa_nil)))))) (fun _ _ _ _ _ => (pv 2))))), ?_⟩
    refine ⟨_, rfl, p, _, dx, _, _, rfl, g, T.c_Family, T.n_Family_names, rfl, _, rfl, ?_⟩
    refine ⟨R, a, t, nm, As, rfl, wi, ha, .inl ht, by omega, fun H1 e k1 ne he => ?_⟩
    refine ⟨e, rfl, ⟨_, SqT.of he⟩, fun D hD => ?_⟩
    refine lcN hD (src_tup (c := V.str) (its := les nm As) he) k1.w (Nat.le_trans (List.length_filter_le _ _) (Nat.le_trans l8 (by decide))) (fun x => fre r (wth As x)) V.str (fun _ => rfl) (fun x hx H2 k2 QT q' => ?_)
      (fun x hx _ H2 k2 Q' q' => ⟨_, rfl, q' H2 (Kp.refl k2.w)⟩) fun H2 k2 e2 => ?_
    · have hx' := mem_les.mp hx
      have k12 := k1.trans k2
      refine ⟨_, rfl, _, rfl, _, rfl, R, t, As, x, rfl, k2.w, k12.at ht, by omega, fun H3 u k3 nu hu3 => ?_⟩
      exact ⟨R, p, u, nm, _, r, rfl, k3.w, hF.mono (k12.trans k3), hu3, lot_wth hF.ss hA hx'.1 hx'.2, fun H4 k4 => ⟨_, rfl, q' H4 (k3.trans k4)⟩⟩
    · exact q _ D (k1.trans k2) (k1.fr hD) e2
def spAfter (K : PySem.W.Frag) : Sp := fun vs H Q _ => ∃ (R : Reg) (p1 p2 t : Addr) (nm A : List Str) (r1 r2 : List Str → Nat) (x : Str), vs = [.ref p1, .ref p2, .ref t, .str x] ∧ WInv R H ∧ FamS K R H p1 nm r1 ∧ FamS K R H p2 nm r2 ∧ H t = some (.tup (A.map V.str)) ∧ Lot nm A ∧ x ∈ nm ∧
  ∀ H' l, Kp R H H' → H l = none → H' l = some (.lst ((aft r1 r2 nm A x).map V.str)) → Q (.ref l) H'
abbrev N_after : List Str := ["one", "other", "lot", "thing", "old", "new"]
theorem sc_after : FnScope N_after ["one", "other", "lot", "thing"] (defScope s_after) := ⟨rfl, rfl, rfl, by decide +kernel, rfl, by decide +kernel, by decide +kernel⟩
theorem c_after (T : Txt K mg) : Call P w K mg base 8 "after" ["one", "other", "lot", "thing"] (spAfter K) := by
  refine mkCall T.d_after sc_after (fun _ _ _ _ _ _ us hl => match us, hl with | [_, _, _, _], _ => rfl) (fun vs H Q E h => ?_) (fun cdv A outer s H vs Q E hr h => ?_)
  · obtain ⟨R, p1, p2, t, nm, As, r1, r2, x, rfl, _⟩ := h; rfl
  · obtain ⟨R, p1, p2, t, nm, As, r1, r2, x, rfl, wi, hF, hG, ht, hA, hx, q⟩ := h
    obtain ⟨dx, a, o, d, g, ha⟩ := hF.nmA
    have l8 := hF.l8
    have lA := lot_le hF.ss hA
    refine ⟨_, (pss_cons (ps_if (pt_cmpR op_in_seq (pv 3) (pv 2) (by rfl)) (pss_one (ps_ret (pe_lc (own := [("new", 5)]) (by rfl) sc_after.nd (pi_tup (pe_f (c_less T) hr (pa_cons (show PE _ _ (tFld K _ "names") from pe_fld (pv 0) rfl) (pa_cons (pv 2) pa_nil)))) (blkOk_by (own := [("new", 5)]) (N := N_after) (sc := defScope s_after) (by decide +kernel)) (fun _ _ _ _ _ => (pg_name (i := 5) sc_after.nd rfl (by first | exact Or.inl rfl | exact Or.inr rfl))) (fun _ _ _ _ _ => (pts_one (pt_val (pe_f (c_is_free_tuple T) hr (pa_cons (pv 0) (pa_cons (pe_f (c_changes T) hr (pa_cons (pv 2) (pa_cons (pv 3) (pa_cons (pv 5) pa_nil)))) pa_nil)))))) (fun _ _ _ _ _ => (pv 5))))) pss_nil)
      (pss_one (ps_ret (pe_lc (own := [("old", 4)]) (by rfl) sc_after.nd (pi_tup (pv 2)) (blkOk_by (own := [("old", 4)]) (N := N_after) (sc := defScope s_after) (by decide +kernel)) (fun _ _ _ _ _ => (pg_name (i := 4) sc_after.nd rfl (by first | exact Or.inl rfl | exact Or.inr rfl))) (fun _ _ _ _ _ => (pts_one (pt_val (pe_f (c_is_free_tuple T) hr (pa_cons (pv 1) (pa_cons (pe_f (c_changes T) hr (pa_cons (pv 2) (pa_cons (pv 4) (pa_cons (pv 3) pa_nil)))) pa_nil)))))) (fun _ _ _ _ _ => (pv 4)))))), ?_⟩
    refine ⟨_, rfl, _, rfl, t, As.map V.str, rfl, .inr (SqT.of ht), rfl, flat_strs _, _, rfl, ?_⟩
    rw [if_neg Bool.false_ne_true, inV_str]
    unfold aft at q
    by_cases hxA : x ∈ As
    · rw [decide_eq_true hxA]
      rw [if_pos hxA] at q
      refine iteT ?_
      refine ⟨_, rfl, p1, _, dx, _, _, rfl, g, T.c_Family, T.n_Family_names, rfl, _, rfl, ?_⟩
      refine ⟨R, a, t, nm, As, rfl, wi, ha, .inl ht, by omega, fun H1 e k1 ne he => ?_⟩
      refine ⟨e, rfl, ⟨_, SqT.of he⟩, fun D hD => ?_⟩
      refine lcN hD (src_tup (c := V.str) (its := les nm As) he) k1.w (Nat.le_trans (List.length_filter_le _ _) (Nat.le_trans l8 (by decide))) (fun y => fre r1 (wth (les As [x]) y)) V.str (fun _ => rfl) (fun y hy H2 k2 QT q' => ?_)
        (fun y hy _ H2 k2 Q' q' => ⟨_, rfl, q' H2 (Kp.refl k2.w)⟩) fun H2 k2 e2 => ?_
      · have hy' := mem_les.mp hy
        have k12 := k1.trans k2
        refine ⟨_, rfl, _, rfl, _, rfl, _, rfl, R, t, As, x, y, rfl, k2.w, k12.at ht, by omega, fun H3 u k3 nu hu3 => ?_⟩
        exact ⟨R, p1, u, nm, _, r1, rfl, k3.w, hF.mono (k12.trans k3), hu3, lot_wth hF.ss (lot_les hF.ss hA [x]) hy'.1 (fun z => hy'.2 (mem_les.mp z).1), fun H4 k4 => ⟨_, rfl, q' H4 (k3.trans k4)⟩⟩
      · exact q _ D (k1.trans k2) (k1.fr hD) e2
    · rw [decide_eq_false hxA]
      rw [if_neg hxA] at q
      refine iteF ?_
      refine ⟨_, rfl, t, rfl, ⟨_, SqT.of ht⟩, fun D hD => ?_⟩
      refine lcN hD (src_tup (c := V.str) (its := As) ht) wi (Nat.le_trans lA (Nat.le_trans l8 (by decide))) (fun y => fre r2 (wth (les As [y]) x)) V.str (fun _ => rfl) (fun y hy H2 k2 QT q' => ?_)
        (fun y hy _ H2 k2 Q' q' => ⟨_, rfl, q' H2 (Kp.refl k2.w)⟩) fun H2 k2 e2 => ?_
      · refine ⟨_, rfl, _, rfl, _, rfl, _, rfl, R, t, As, y, x, rfl, k2.w, k2.at ht, by omega, fun H3 u k3 nu hu3 => ?_⟩
        exact ⟨R, p2, u, nm, _, r2, rfl, k3.w, hG.mono (k2.trans k3), hu3, lot_wth hF.ss (lot_les hF.ss hA [y]) hx (fun z => hxA (mem_les.mp z).1), fun H4 k4 => ⟨_, rfl, q' H4 (k3.trans k4)⟩⟩
      · exact q _ D k2 hD e2

/-! ### came_from -/
def encC : Option (Option Str) → V
  | some (some u) => .str u
  | _ => .non
theorem visits_len {t : Str} : ∀ (l : List Str) (s : Bf.BS Str), (l.foldl (Bf.visit t) s).ks.length ≤ s.ks.length + l.length ∧ (l.foldl (Bf.visit t) s).ws.length ≤ s.ws.length + l.length
  | [], s => ⟨Nat.le_refl _, Nat.le_refl _⟩
  | f :: l, s => by
    have h := visits_len (t := t) l (Bf.visit t s f)
    have h1 : (Bf.visit t s f).ks.length ≤ s.ks.length + 1 ∧ (Bf.visit t s f).ws.length ≤ s.ws.length + 1 := by
      unfold Bf.visit
      split
      · omega
      · simp only [List.length_append, List.length_singleton]; omega
    rw [List.foldl_cons, List.length_cons]
    omega
/-- a search's words stand -/
abbrev cameD (s : Bf.BS Str) : List (Key × V) := DFn s.ks fun v => encC (s.cm v)
def spCame (K : PySem.W.Frag) : Sp := fun vs H Q _ => ∃ (R : Reg) (p1 p2 t : Addr) (nm A : List Str) (r1 r2 : List Str → Nat), vs = [.ref p1, .ref p2, .ref t] ∧ WInv R H ∧ FamS K R H p1 nm r1 ∧ FamS K R H p2 nm r2 ∧ H t = some (.tup (A.map V.str)) ∧ Lot nm A ∧
  ∀ H' d (s : Bf.BS Str) (dd : Str → Int), Kp R H H' → H d = none → H' d = some (.dK (cameD s)) → Bf.BEnd (outs r1 nm A) (aft r1 r2 nm A) nm s.ks s.cm dd → Q (.ref d) H'
abbrev N_came_from : List Str := ["one", "other", "lot", "waiting", "thing", "came", "following"]
theorem sc_came_from : FnScope N_came_from ["one", "other", "lot"] (defScope s_came_from) := ⟨rfl, rfl, rfl, by decide +kernel, rfl, by decide +kernel, by decide +kernel⟩
theorem c_came_from (T : Txt K mg) : Call P w K mg base 9 "came_from" ["one", "other", "lot"] (spCame K) := by
  refine mkCall T.d_came_from sc_came_from (fun _ _ _ _ _ _ us hl => match us, hl with | [_, _, _], _ => rfl) (fun vs H Q E h => ?_) (fun cdv A outer s H vs Q E hr h => ?_)
  · obtain ⟨R, p1, p2, t, nm, As, r1, r2, rfl, _⟩ := h; rfl
  · obtain ⟨R, p1, p2, t, nm, As, r1, r2, rfl, wi, hF, hG, ht, hA, q⟩ := h
    have hu := hu_of hr
    have l8 := hF.l8
    have lo8 : (outs r1 nm As).length ≤ 8 := Nat.le_trans (Bf.nodup_le (outs_nd hF.ss) outs_in) l8
    refine ⟨_, (pss_cons (ps_set (i := 3) sc_came_from.nd rfl (Or.inl rfl) (pe_f (c_outer_of T) hr (pa_cons (pv 0) (pa_cons (pv 2) pa_nil))))
      (pss_cons (ps_setDc (i := 5) (own := [("thing", 4)]) (by rfl) sc_came_from.nd rfl rfl (sw_trueD rfl rfl rfl (by decide +kernel)) (pi_list (pv 3)) (blkOk_by (own := [("thing", 4)]) (N := N_came_from) (sc := defScope s_came_from) (by decide +kernel)) (fun _ _ _ _ _ => (pg_name (i := 4) sc_came_from.nd rfl (by first | exact Or.inl rfl | exact Or.inr rfl))) (fun _ _ _ _ _ => pts_nil) (fun _ _ _ _ _ => (pv 4)) (fun _ _ _ _ _ => pe_non))
      (pss_cons (ps_while PassesOwn.never (pt_cmpR (op_neD hr.units) (pv 3) (pe_lst pa_nil) (nomark _)) (pss_cons (ps_set (i := 4) sc_came_from.nd rfl (Or.inl rfl) (pe_bm PySem.F.plainAttrs_list PySem.F.slot_list_pop PySem.F.type_list_pop mt_popAt (pv 3) (pa_cons pe_int pa_nil)))
      (pss_one (ps_for PassesOwn.never rfl (pi_list (pe_f (c_after T) hr (pa_cons (pv 0) (pa_cons (pv 1) (pa_cons (pv 2) (pa_cons (pv 4) pa_nil)))))) (pg_name (i := 6) sc_came_from.nd rfl (by first | exact Or.inl rfl | exact Or.inr rfl)) (pss_one (ps_if (pt_cmp (pc_dnotin hu (pv 6) (pv 5))) (pss_cons (ps_dput hu (pv 5) (pv 6) (pv 4) rfl)
      (pss_one (ps_expr (pe_bm PySem.F.plainAttrs_list PySem.F.slot_list_append PySem.F.type_list_append mt_append (pv 3) (pa_cons (pv 6) pa_nil))))) pss_nil))))))
      (pss_one (ps_ret (pv 5)))))), ?_⟩
    refine ⟨_, rfl, _, rfl, R, p1, t, nm, As, r1, rfl, wi, hF, ht, hA, fun H1 l k1 nl hl => ?_⟩
    refine ⟨_, rfl, l, rfl, ⟨_, SqL.of hl⟩, fun D hD => ?_⟩
    refine dcG hD (src_lst (c := V.str) (its := outs r1 nm As) hl) k1.w (by omega) (fun p v _ => v = .non) Sum.inr (fun _ _ _ _ _ h => h) (fun _ _ _ _ _ _ h => h) (nodup_inr (outs_nd hF.ss)) (fun _ => rfl) (fun _ _ _ _ q => q)
      (fun x hx H1 Q' q' => ⟨_, rfl, q'⟩) (fun x hx H1 k Q' q' => q' _ H1 (Kp.refl k.w) rfl) fun H2 kv2 k2 e2 pr => ?_
    obtain ⟨d0, I0⟩ := Bf.bs_start (adj := aft r1 r2 nm As) (outs_in (r := r1) (nm := nm) (A := As)) (outs_nd hF.ss)
    have ekv : kv2 = cameD ⟨outs r1 nm As, outs r1 nm As, fun v => if v ∈ outs r1 nm As then some none else none⟩ := by
      have aux : ∀ {a : List Str} {b : List (Key × V)}, Paired (fun (i : Str) (kv : Key × V) => kv.1 = Sum.inr i ∧ kv.2 = .non) a b → b = DFn a fun _ => .non := by
        intro a b pp
        induction pp with
        | nil => rfl
        | cons r t ih => rw [ih]; show _ = (Sum.inr _, V.non) :: _; rw [← r.1, ← r.2]; rfl
      rw [aux pr]
      refine dfn_congr fun x hx => ?_
      show V.non = encC (if x ∈ outs r1 nm As then some none else none)
      rw [if_pos hx]; rfl
    subst ekv
    have nlD : l ≠ D := ne_of_none hl hD
    have k12 := k1.trans k2
    have nD := k1.fr hD
    -- while waiting != []
    refine ⟨fun m σ H3 => ∃ s dd lo v4 v6, m = Bf.bsm nm s ∧ Bf.bsm nm s ≤ 16 ∧ σ = [some (.ref p1), some (.ref p2), some (.ref t), some (.ref l), v4, some (.ref D), v6] ∧ Kp R H H3 ∧ H3 l = some (.lst (s.ws.map V.str)) ∧ H3 D = some (.dK (cameD s)) ∧
      Bf.BSInv (outs r1 nm As) (aft r1 r2 nm As) nm (fun _ => True) lo s dd, ⟨_, _, d0, 1, none, none, rfl, ?_, rfl, k12, k2.at hl, e2, I0⟩, ?_⟩
    · show 2 * (nm.length - (outs r1 nm As).length) + (outs r1 nm As).length ≤ 16
      have : (outs r1 nm As).length ≤ nm.length := Bf.nodup_le (outs_nd hF.ss) outs_in
      omega
    rintro m σ H3 ⟨s, dd, lo, v4, v6, rfl, hm, rfl, k3, hl3, hD3, I⟩
    have ksn : s.ks.length ≤ nm.length := Bf.nodup_le I.nd I.inE
    refine ⟨_, rfl, Nat.zero_le _, fun e ne => ?_⟩
    refine ne_strs (A := s.ws) (B := []) (by rw [upd_ne (ne_of_none hl3 ne)]; exact hl3) upd_same (fun x hx => hF.ok x (I.inE x (I.wsk x hx))) (by simp) ⟨_, rfl, ?_⟩
    have k4 := k3.new ne (o := .lst [])
    have hl4 := (Kp.upd k3.w ne (o := .lst [])).at hl3
    have hD4 := (Kp.upd k3.w ne (o := .lst [])).at hD3
    by_cases ew : s.ws = []
    · rw [decide_eq_true ew]
      exact iteF ⟨_, rfl, q _ D s dd k4 nD hD4 (Bf.bs_end I ew)⟩
    rw [decide_eq_false ew]
    obtain ⟨x, ws, ew⟩ := List.exists_cons_of_ne_nil ew
    have hxk : x ∈ s.ks := I.wsk x (by rw [ew]; exact List.mem_cons_self)
    have hxn : x ∈ nm := I.inE x hxk
    obtain ⟨lo', dd', I', lt⟩ := Bf.bstep_inv (fun t f hf => aft_in hA t f hf) ew I
    have wl : ws.length ≤ 15 := by
      have : s.ws.length ≤ 16 := by unfold Bf.bsm at hm; omega
      rw [ew, List.length_cons] at this; omega
    refine iteT ⟨fun σ H5 => ∃ s' dd' lo' v4 v6, Bf.bsm nm s' < Bf.bsm nm s ∧ σ = [some (.ref p1), some (.ref p2), some (.ref t), some (.ref l), v4, some (.ref D), v6] ∧ Kp R H H5 ∧ H5 l = some (.lst (s'.ws.map V.str)) ∧ H5 D = some (.dK (cameD s')) ∧
      Bf.BSInv (outs r1 nm As) (aft r1 r2 nm As) nm (fun _ => True) lo' s' dd', ?_, ?_⟩
    · rintro σ' H5 ⟨s', dd', lo', v4, v6, lt, rfl, a, b, c, d⟩
      exact ⟨_, lt, s', dd', lo', v4, v6, rfl, by omega, rfl, a, b, c, d⟩
    rw [ew] at hl4
    refine ⟨_, rfl, .inl ⟨rfl, _, SqL.of hl4⟩, l, _, 0, 0, .str x, rfl, rfl, hl4, by decide, by decide, ?_, rfl, ?_⟩
    · unfold seqIndex?
      rw [List.length_map, List.length_cons]
      simp
    have k5 : Kp R H (upd (upd H3 e (.lst [])) l (.lst (((x :: ws).map V.str).eraseIdx 0))) := k4.mut nl
    have hD5 : (upd (upd H3 e (.lst [])) l (.lst (((x :: ws).map V.str).eraseIdx 0))) D = some (.dK (cameD s)) := by rw [upd_ne nlD.symm]; exact hD4
    refine ⟨_, rfl, _, rfl, _, rfl, _, rfl, R, p1, p2, t, nm, As, r1, r2, x, rfl, k5.w, hF.mono k5, hG.mono k5, k5.at ht, hA, hxn, fun H6 al k6 na hal => ?_⟩
    have nal : al ≠ l := fun z => by rw [z, upd_same] at na; cases na
    have naD : al ≠ D := fun z => by rw [z, hD5] at na; cases na
    refine ⟨al, rfl, ⟨_, SqL.of hal⟩, ?_⟩
    refine forG (G := fun H7 => H7 al = some (.lst ((aft r1 r2 nm As x).map V.str))) (src_lstG (c := V.str) (its := aft r1 r2 nm As x) fun _ g => g)
      (fun i σ H7 => ∃ v6, σ = [some (.ref p1), some (.ref p2), some (.ref t), some (.ref l), some (.str x), some (.ref D), v6] ∧ Kp R H H7 ∧ H7 al = some (.lst ((aft r1 r2 nm As x).map V.str)) ∧
        H7 l = some (.lst ((((aft r1 r2 nm As x).take i).foldl (Bf.visit x) ⟨ws, s.ks, s.cm⟩).ws.map V.str)) ∧ H7 D = some (.dK (cameD (((aft r1 r2 nm As x).take i).foldl (Bf.visit x) ⟨ws, s.ks, s.cm⟩))))
      (fun i σ H7 ⟨_, _, _, g, _⟩ => g) ⟨v6, rfl, k5.trans k6, hal, by rw [k6.at upd_same]; rfl, k6.at hD5⟩ ?_ ?_
    · rintro i f σ H7 hf ⟨v6, rfl, k7, ha7, hl7, hD7⟩
      have il : i < (aft r1 r2 nm As x).length := (List.getElem?_eq_some_iff.mp hf).1
      have al8 : (aft r1 r2 nm As x).length ≤ 8 := by
        refine Nat.le_trans ?_ l8
        unfold aft
        split
        · exact Nat.le_trans (List.length_filter_le _ _) (List.length_filter_le _ _)
        · exact Nat.le_trans (List.length_filter_le _ _) (lot_le hF.ss hA)
      have vl := visits_len (t := x) ((aft r1 r2 nm As x).take i) ⟨ws, s.ks, s.cm⟩
      have es : ((aft r1 r2 nm As x).take (i + 1)).foldl (Bf.visit x) ⟨ws, s.ks, s.cm⟩ = Bf.visit x (((aft r1 r2 nm As x).take i).foldl (Bf.visit x) ⟨ws, s.ks, s.cm⟩) f := by
        rw [take_succ_at hf, List.foldl_append]; rfl
      rw [es]
      generalize ((aft r1 r2 nm As x).take i).foldl (Bf.visit x) ⟨ws, s.ks, s.cm⟩ = u at vl hl7 hD7
      have vl1 : u.ks.length ≤ 16 := by
        have h1 := vl.1
        rw [List.length_take] at h1
        have : (Bf.BS.ks ⟨ws, s.ks, s.cm⟩).length = s.ks.length := rfl
        omega
      have vl2 : u.ws.length ≤ 24 := by
        have h1 := vl.2
        rw [List.length_take] at h1
        have : (Bf.BS.ws ⟨ws, s.ks, s.cm⟩).length = ws.length := rfl
        omega
      refine ⟨_, rfl, _, rfl, D, _, rfl, DGet.k (k := Sum.inr f) hD7, _, rfl, ?_⟩
      by_cases hfu : f ∈ u.ks
      · rw [dfn_get hfu]
        refine iteF ⟨_, rfl, k7, ha7, ?_, ?_⟩
        · unfold Bf.visit; rw [if_pos hfu]; exact hl7
        · unfold Bf.visit; rw [if_pos hfu]; exact hD7
      · rw [dfn_no hfu]
        refine iteT ⟨_, rfl, _, rfl, _, rfl, D, _, rfl, DPut.k (k := Sum.inr f) hD7 (by rw [dfn_len]; exact Nat.lt_of_le_of_lt vl1 (by decide)), ?_⟩
        have hl8 : (upd H7 D (.dK (putK (cameD u) (Sum.inr f) (.str x)))) l = some (.lst (u.ws.map V.str)) := by rw [upd_ne nlD]; exact hl7
        refine ⟨_, rfl, .inl ⟨rfl, _, SqL.of hl8⟩, _, rfl, l, _, _, rfl, rfl, hl8, by rw [List.length_map]; exact Nat.lt_of_le_of_lt vl2 (by decide), ?_⟩
        refine ⟨_, rfl, (k7.mut nD).mut nl, ?_, ?_, ?_⟩
        · rw [upd_ne nal, upd_ne naD]; exact ha7
        · rw [upd_same]
          unfold Bf.visit
          rw [if_neg hfu]
          show _ = some (HO.lst ((u.ws ++ [f]).map V.str))
          rw [List.map_append]; rfl
        · rw [upd_ne nlD.symm, upd_same, putK_new _ (dfn_no hfu)]
          unfold Bf.visit
          rw [if_neg hfu]
          show some (HO.dK (cameD u ++ [(Sum.inr f, V.str x)])) = some (HO.dK (DFn (u.ks ++ [f]) fun v => encC (if v = f then some (some x) else u.cm v)))
          have e1 : DFn (u.ks ++ [f]) (fun v => encC (if v = f then some (some x) else u.cm v)) = DFn u.ks (fun v => encC (if v = f then some (some x) else u.cm v)) ++ DFn [f] (fun v => encC (if v = f then some (some x) else u.cm v)) := List.map_append
          have e2 : DFn [f] (fun v => encC (if v = f then some (some x) else u.cm v)) = [(Sum.inr f, V.str x)] := by
            show [((Sum.inr f : Key), encC (if f = f then some (some x) else u.cm f))] = _
            rw [if_pos rfl]; rfl
          rw [e1, e2, dfn_congr (g' := fun v => encC (u.cm v)) fun v hv => by rw [if_neg (show ¬ v = f from fun z => hfu (z ▸ hv))]]
    · rintro σ H7 ⟨v6, rfl, k7, ha7, hl7, hD7⟩
      rw [List.take_length] at hl7 hD7
      exact ⟨_, dd', lo', _, _, lt, rfl, k7, hl7, hD7, I'⟩
end
end Bw
set_option Elab.async false
set_option linter.all false
set_option maxRecDepth 100000
set_option maxHeartbeats 4000000
/-! both.py: ways, chains, a greatest lot -/
namespace Bw
open PySem PySem.Spec PyProof.Rows L2 Bt Bs Bm
section
variable {P : Program} {w : World} {K : PySem.W.Frag} {mg : Str → Option Value} {base : Heap}
theorem atI_last {α : Type} {l : List α} {y : α} : atI (l ++ [y]) (-1) = some y := by
  have e : ixN (l ++ [y]).length (-1) = some l.length := by
    unfold ixN
    rw [List.length_append, List.length_singleton, if_neg (by decide), if_pos (by omega)]
    congr 1
    omega
  unfold atI
  rw [e]
  simp
theorem atI_zero {α : Type} {y : α} {l : List α} : atI (y :: l) 0 = some y := by
  have e : ixN (y :: l).length 0 = some 0 := by
    unfold ixN
    rw [if_pos (by decide), if_pos (by rw [List.length_cons]; omega)]; rfl
  unfold atI
  rw [e]; rfl
def spWayBack : Sp := fun vs H Q _ => ∃ (R : Reg) (d : Addr) (s : Bf.BS Str) (nm src : List Str) (adj : Str → List Str) (dd : Str → Int) (x : Str), vs = [.ref d, .str x] ∧ WInv R H ∧ H d = some (.dK (cameD s)) ∧ Bf.BEnd src adj nm s.ks s.cm dd ∧ nm.length ≤ 8 ∧ x ∈ s.ks ∧
  ∀ H' l p, Kp R H H' → H l = none → H' l = some (.lst ((x :: p).reverse.map V.str)) → Bf.Bk s.cm (x :: p) → Q (.ref l) H'
abbrev N_way_back : List Str := ["came", "thing", "found"]
theorem sc_way_back : FnScope N_way_back ["came", "thing"] (defScope s_way_back) := ⟨rfl, rfl, rfl, by decide +kernel, rfl, by decide +kernel, by decide +kernel⟩
theorem c_way_back (T : Txt K mg) : Call P w K mg base 1 "way_back" ["came", "thing"] spWayBack := by
  refine mkCall T.d_way_back sc_way_back (fun _ _ _ _ _ _ us hl => match us, hl with | [_, _], _ => rfl) (fun vs H Q E h => ?_) (fun cdv A outer s H vs Q E hr h => ?_)
  · obtain ⟨R, d, s, nm, src, adj, dd, x, rfl, _⟩ := h; rfl
  · obtain ⟨R, d, s, nm, src, adj, dd, x, rfl, wi, hd, B, l8, hx, q⟩ := h
    have hu := hu_of hr
    refine ⟨_, (pss_cons (ps_set (i := 2) sc_way_back.nd rfl (Or.inl rfl) (pe_lst (pa_cons (pv 1) pa_nil)))
      (pss_cons (ps_while PassesOwn.never (pt_cmpR op_notN (pe_dget hu (pv 0) (pe_ix ix_list (pv 2) (pe_un un_neg pe_int) (fun _ _ => rfl)) (fun _ _ => rfl)) pe_non (nomark _)) (pss_one (ps_expr (pe_bm PySem.F.plainAttrs_list PySem.F.slot_list_append PySem.F.type_list_append mt_append (pv 2) (pa_cons (pe_dget hu (pv 0) (pe_ix ix_list (pv 2) (pe_un un_neg pe_int) (fun _ _ => rfl)) (fun _ _ => rfl)) pa_nil)))))
      (pss_one (ps_ret (pe_listRev (by rfl) (by rfl) T.f_list (by rfl) T.f_reversed (pv 2)))))), ?_⟩
    refine ⟨_, rfl, by show 1 ≤ sizeLine; decide, fun l nl => ?_⟩
    have k1 := Kp.upd wi nl (o := .lst [V.str x])
    refine ⟨fun m σ H1 => ∃ (ys : List Str) (y : Str), m = (dd y).toNat ∧ σ = [some (.ref d), some (.str x), some (.ref l)] ∧ Kp R H H1 ∧ H1 l = some (.lst ((ys ++ [y]).map V.str)) ∧ (ys ++ [y]).Nodup ∧ (∀ z, z ∈ ys ++ [y] → z ∈ s.ks) ∧ (∀ z, z ∈ ys → dd y < dd z) ∧
      (∀ p, Bf.Bk s.cm (y :: p) → Bf.Bk s.cm (ys ++ y :: p)) ∧ ∃ p, ys ++ [y] = x :: p, ⟨_, [], x, rfl, rfl, k1, upd_same, by simp, by simpa using hx, by simp, fun p h => h, [], rfl⟩, ?_⟩
    rintro m σ H1 ⟨ys, y, rfl, rfl, k, hl, nd, sub, lt, pb, p, ep⟩
    have hy : y ∈ s.ks := sub y (by simp)
    have len8 : (ys ++ [y]).length ≤ 8 := Nat.le_trans (Bf.nodup_le nd fun z hz => B.inE z (sub z hz)) l8
    have hl' : SqL K H1 l (ys.map V.str ++ [V.str y]) := SqL.of (by rw [hl, List.map_append]; rfl)
    have hy' := (B.dom y).mpr hy
    refine ⟨_, rfl, _, rfl, _, rfl, l, _, -1, .str y, rfl, rfl, hl', atI_last, d, _, rfl, (show DGet _ _ (kV (Sum.inr y)) _ from dfn_get hy ▸ DGet.k (k.at hd)), rfl, _, rfl, ?_⟩
    cases e : s.cm y with
    | none => exact absurd e hy'
    | some o =>
      cases o with
      | none =>
        refine iteF ⟨_, rfl, l, _, rfl, hl, fun t nt => ?_⟩
        have hb := pb [] e
        rw [ep] at hb
        refine q _ t p (k.new nt) (k.fr nt) ?_ hb
        rw [upd_same, ← List.map_reverse, ep]
      | some u =>
        obtain ⟨hu1, _, hu2⟩ := B.cam y u e
        have hp := B.pos u hu1
        refine iteT ⟨fun σ H2 => ∃ (ys : List Str) (z : Str), (dd z).toNat < (dd y).toNat ∧ σ = [some (.ref d), some (.str x), some (.ref l)] ∧ Kp R H H2 ∧ H2 l = some (.lst ((ys ++ [z]).map V.str)) ∧ (ys ++ [z]).Nodup ∧ (∀ z', z' ∈ ys ++ [z] → z' ∈ s.ks) ∧ (∀ z', z' ∈ ys → dd z < dd z') ∧
          (∀ p, Bf.Bk s.cm (z :: p) → Bf.Bk s.cm (ys ++ z :: p)) ∧ ∃ p, ys ++ [z] = x :: p, ?_, ?_⟩
        · rintro σ' H2 ⟨ys', z, h0, rfl, h1, h2, h3, h4, h5, h6, h7⟩
          exact ⟨_, h0, ys', z, rfl, rfl, h1, h2, h3, h4, h5, h6, h7⟩
        refine ⟨_, rfl, .inl ⟨rfl, _, SqL.of hl⟩, _, rfl, _, rfl, _, rfl, l, _, -1, .str y, rfl, rfl, hl', atI_last, d, _, rfl, (show DGet _ _ (kV (Sum.inr y)) _ from dfn_get hy ▸ DGet.k (k.at hd)), ?_⟩
        refine ⟨l, _, _, rfl, rfl, hl, by rw [List.length_map]; exact Nat.lt_of_le_of_lt len8 (by decide), ?_⟩
        rw [e]
        have lt' : ∀ z', z' ∈ ys ++ [y] → dd u < dd z' := fun z' hz => by
          rcases List.mem_append.mp hz with h | h
          · have := lt z' h; omega
          · rw [List.mem_singleton.mp h]; omega
        refine ⟨ys ++ [y], u, by omega, rfl, k.mut nl, (by rw [upd_same, List.map_append (l₁ := ys ++ [y])]; rfl), ?_, fun z' hz => ?_, lt', fun p' hb => ?_, p ++ [u], by rw [ep]; rfl⟩
        · rw [List.nodup_append]
          refine ⟨nd, by simp, fun a ha b hb ee => ?_⟩
          have : b = u := by simpa using hb
          have h1 := lt' a ha
          rw [ee, this] at h1
          omega
        · rcases List.mem_append.mp hz with h | h
          · exact sub z' h
          · rw [List.mem_singleton.mp h]; exact hu1
        · rw [List.append_assoc]
          exact pb (u :: p') ⟨e, hb⟩

/-! ### chains -/
/-- none, or a way by which the lot grows -/
def ChainV (r1 r2 : List Str → Nat) (nm A : List Str) (H : Hp) (v : V) : Prop := (v = .non ∧ NoFwd r1 r2 nm A) ∨ ∃ q l, v = .ref q ∧ H q = some (.lst (l.map V.str)) ∧ Good r1 r2 nm A (fun _ => 0) l
def spChain (K : PySem.W.Frag) : Sp := fun vs H Q _ => ∃ (R : Reg) (p1 p2 t : Addr) (nm A : List Str) (r1 r2 : List Str → Nat), vs = [.ref p1, .ref p2, .ref t] ∧ WInv R H ∧ FamS K R H p1 nm r1 ∧ FamS K R H p2 nm r2 ∧ H t = some (.tup (A.map V.str)) ∧ Lot nm A ∧
  Bf.Ind r1 A ∧ Bf.Ind r2 A ∧ ∀ H' v, Kp R H H' → ChainV r1 r2 nm A H' v → Q v H'
/-- a list of texts as a value -/
def lsV (H : Hp) (v : V) (ls : List Str) : Prop := ∃ q, v = .ref q ∧ H q = some (.lst (ls.map V.str))
theorem dp_lists {H : Hp} : ∀ {vs : List V} {zs : List (List Str)}, Paired (lsV H) vs zs → DpAll K H vs (zs.map fun a => PyData.list (a.map PyData.str))
  | _, _, .nil => .nil
  | _, _, .cons r t => by
    obtain ⟨q, rfl, h⟩ := r
    exact .cons (.lst (SqL.of h) (dp_strs _)) (dp_lists t)
theorem lay_lists : ∀ (zs : List (List Str)), (∀ a, a ∈ zs → ∀ x, x ∈ a → PyData.strOk x = true) → PyData.canLayAll0 (zs.map fun a => PyData.list (a.map PyData.str)) = true
  | [], _ => by simp [PyData.canLayAll0]
  | a :: as, h => by
    have h1 := canLay_strs a (h a List.mem_cons_self)
    have h2 := lay_lists as fun b hb => h b (List.mem_cons_of_mem _ hb)
    simp only [List.map_cons, PyData.canLayAll0, PyData.canLay0, h1, h2, Bool.and_true]
theorem depth_lists : ∀ (zs : List (List Str)), PyData.depthAll (zs.map fun a => PyData.list (a.map PyData.str)) ≤ 2
  | [] => by simp [PyData.depthAll]
  | a :: as => by
    have h1 := depth_strs a
    have h2 := depth_lists as
    simp only [List.map_cons, PyData.depthAll, PyData.depth]
    omega
theorem shaped_lists {zs : List (List Str)} (h : ∀ a, a ∈ zs → ∀ x, x ∈ a → PyData.strOk x = true) : SeqAt.shaped (.list (zs.map fun a => PyData.list (a.map PyData.str))) = true := by
  have h1 := depth_lists zs
  have h2 : PyData.depth (.list (zs.map fun a => PyData.list (a.map PyData.str))) ≤ 64 := by simp only [PyData.depth]; omega
  show (PyData.canLay0 (.list (zs.map fun a => PyData.list (a.map PyData.str))) && decide (PyData.depth (.list (zs.map fun a => PyData.list (a.map PyData.str))) ≤ 64)) = true
  rw [Bool.and_eq_true]
  exact ⟨by simp only [PyData.canLay0]; exact lay_lists zs h, decide_eq_true h2⟩
/-- a list of lists of texts == [] -/
theorem eq_nil {H : Hp} {a b : Addr} {vs : List V} {zs : List (List Str)} {Q : VK} (ha : H a = some (.lst vs)) (hz : Paired (lsV H) vs zs) (hb : H b = some (.lst [])) (ok : ∀ a, a ∈ zs → ∀ x, x ∈ a → PyData.strOk x = true) (q : Q (.bl (decide (zs = []))) H) :
    rEqD K (.ref a) (.ref b) H Q :=
  ⟨_, _, .lst (SqL.of ha) (dp_lists hz), .lst (SqL.of hb) .nil, shaped_lists ok, by decide, by
    cases zs with
    | nil => exact q
    | cons z zs => exact q⟩
theorem cutV_tail {v : V} {vs : List V} : cutV (v :: vs) (some 1) none = vs := by
  have e1 : HT.sIx (v :: vs).length 0 (some 1) = 1 := by
    rw [show (some (1 : Int)) = some ((1 : Nat) : Int) from rfl, HT.sIx_nat, List.length_cons]
    omega
  have e2 : HT.sIx (v :: vs).length (v :: vs).length none = vs.length + 1 := by
    simp only [HT.sIx, List.length_cons]
  unfold cutV
  rw [e1, e2]
  simp
abbrev N_chain_of : List Str := ["one", "other", "lot", "came", "found", "best", "chain", "thing"]
theorem sc_chain_of : FnScope N_chain_of ["one", "other", "lot"] (defScope s_chain_of) := ⟨rfl, rfl, rfl, by decide +kernel, rfl, by decide +kernel, by decide +kernel⟩
theorem c_chain_of (T : Txt K mg) : Call P w K mg base 10 "chain_of" ["one", "other", "lot"] (spChain K) := by
  refine mkCall T.d_chain_of sc_chain_of (fun _ _ _ _ _ _ us hl => match us, hl with | [_, _, _], _ => rfl) (fun vs H Q E h => ?_) (fun cdv A outer s H vs Q E hr h => ?_)
  · obtain ⟨R, p1, p2, t, nm, As, r1, r2, rfl, _⟩ := h; rfl
  · obtain ⟨R, p1, p2, t, nm, As, r1, r2, rfl, wi, hF, hG, ht, hA, i1, i2, q⟩ := h
    have hu := hu_of hr
    have l8 := hF.l8
    have sA : ∀ x, x ∈ As → x ∈ nm := fun x hx => hA.sub hx
    refine ⟨_, (pss_cons (ps_set (i := 3) sc_chain_of.nd rfl (Or.inr rfl) (pe_f (c_came_from T) hr (pa_cons (pv 0) (pa_cons (pv 1) (pa_cons (pv 2) pa_nil)))))
      (pss_cons (ps_setLc (i := 4) (own := [("thing", 7)]) (by rfl) sc_chain_of.nd rfl rfl (sw_true rfl rfl rfl (by decide +kernel)) (pi_list (pe_f (c_outer_of T) hr (pa_cons (pv 1) (pa_cons (pv 2) pa_nil)))) (blkOk_by (own := [("thing", 7)]) (N := N_chain_of) (sc := defScope s_chain_of) (by decide +kernel)) (fun _ _ _ _ _ => (pg_name (i := 7) sc_chain_of.nd rfl (by first | exact Or.inl rfl | exact Or.inr rfl))) (fun _ _ _ _ _ => (pts_one (pt_cmp (pc_din hu (pv 7) (pv 3))))) (fun _ _ _ _ _ => (pe_f (c_way_back T) hr (pa_cons (pv 3) (pa_cons (pv 7) pa_nil)))))
      (pss_cons (ps_if (pt_cmpR (op_eqD hr.units) (pv 4) (pe_lst pa_nil) (nomark _)) (pss_one (ps_ret pe_non)) pss_nil)
      (pss_cons (ps_set (i := 5) sc_chain_of.nd rfl (Or.inl rfl) (pe_ix ix_list (pv 4) pe_int (fun _ _ => rfl)))
      (pss_cons (ps_for PassesOwn.never rfl (pi_list (pe_slice sl_list (pv 4) (po_some pe_int) po_none)) (pg_name (i := 6) sc_chain_of.nd rfl (by first | exact Or.inl rfl | exact Or.inr rfl)) (pss_one (ps_if (pt_cmpR op_lt (pe_callB call_len_seq (by rfl) T.f_len bt_len (pa_cons (pv 6) pa_nil)) (pe_callB call_len_seq (by rfl) T.f_len bt_len (pa_cons (pv 5) pa_nil)) (nomark _)) (pss_one (ps_set (i := 5) sc_chain_of.nd rfl (Or.inl rfl) (pv 6))) pss_nil)))
      (pss_one (ps_ret (pv 5)))))))), ?_⟩
    refine ⟨_, rfl, _, rfl, _, rfl, R, p1, p2, t, nm, As, r1, r2, rfl, wi, hF, hG, ht, hA, fun H1 d s dd k1 nd hd B => ?_⟩
    have FN := Bf.bs_fin (gph hF.rk hG.rk) sA B
    refine ⟨_, rfl, _, rfl, R, p2, t, nm, As, r2, rfl, k1.w, hG.mono k1, k1.at ht, hA, fun H2 l k2 nl hl => ?_⟩
    have k12 := k1.trans k2
    refine ⟨l, rfl, ⟨_, SqL.of hl⟩, fun D hD => ?_⟩
    have lo8 : (outs r2 nm As).length ≤ 8 := Nat.le_trans (Bf.nodup_le (outs_nd hF.ss) outs_in) l8
    refine lcG hD (src_lst (c := V.str) (its := outs r2 nm As) hl) k2.w (by omega) (fun x v H => ∃ g p, v = .ref g ∧ g ≠ D ∧ H g = some (.lst ((x :: p).reverse.map V.str)) ∧ Bf.Bk s.cm (x :: p)) (fun x => decide (x ∈ s.ks)) (fun x => _)
      (fun x v Ha Hb kk ⟨g, p, e, n, h, b⟩ => ⟨g, p, e, n, kk.at h, b⟩) (fun x v Ha xs ys hx ⟨g, p, e, n, h, b⟩ => ⟨g, p, e, n, by rw [upd_ne n]; exact h, b⟩) (fun x => ?_) (fun x hx H3 k3 QG qg => qg) (fun x hx H3 k3 QT qt => ?_) (fun x hx hT xs H3 k3 hDD Q' q' => ?_) fun H3 ys k3 e3 pr => ?_
    · rfl
    · refine ⟨_, rfl, _, rfl, d, _, rfl, DGet.k (k := Sum.inr x) ((k2.trans k3).at hd), ?_⟩
      by_cases hxk : x ∈ s.ks
      · rw [dfn_get hxk]
        refine ⟨_, rfl, ?_⟩
        have := qt H3 (Kp.refl k3.w)
        rw [decide_eq_true hxk] at this
        exact this
      · rw [dfn_no hxk]
        refine ⟨_, rfl, ?_⟩
        have := qt H3 (Kp.refl k3.w)
        rw [decide_eq_false hxk] at this
        exact this
    · refine ⟨_, rfl, _, rfl, R, d, s, nm, _, _, dd, x, rfl, k3.w, (k2.trans k3).at hd, B, l8, of_decide_eq_true hT, fun H4 g p k4 ng hg hb => ?_⟩
      exact q' _ H4 k4 ⟨g, p, rfl, (fun z => by rw [z, hDD] at ng; cases ng), hg, hb⟩
    have k13 := k12.trans k3
    obtain ⟨its, ei, ey, hits⟩ := paired_zip pr
    have hin : ∀ p, p ∈ its → p.1 ∈ outs r2 nm As ∧ p.1 ∈ s.ks := fun p hp => by
      have : p.1 ∈ (outs r2 nm As).filter fun x => decide (x ∈ s.ks) := by rw [ei]; exact List.mem_map.mpr ⟨p, hp, rfl⟩
      have h := List.mem_filter.mp this
      exact ⟨h.1, of_decide_eq_true h.2⟩
    have hin2 : ∀ x, x ∈ outs r2 nm As → x ∈ s.ks → ∃ p, p ∈ its ∧ p.1 = x := fun x h1 h2 => by
      have : x ∈ its.map (·.1) := by rw [← ei]; exact List.mem_filter.mpr ⟨h1, decide_eq_true h2⟩
      obtain ⟨p, a, b⟩ := List.mem_map.mp this
      exact ⟨p, a, b⟩
    have houts : ∀ x, x ∈ outs r2 nm As ↔ x ∈ nm ∧ x ∉ As ∧ Bf.Ind r2 (x :: As) := fun x => (gph (nm := nm) (A := As) hG.rk hF.rk).src x
    -- the lists as data
    have hch : ∀ L : List (Str × V), (∀ p, p ∈ L → p ∈ its) → ∃ zs : List (List Str), Paired (lsV H3) (L.map (·.2)) zs ∧ zs.length = L.length ∧ ∀ a, a ∈ zs → ∀ x, x ∈ a → PyData.strOk x = true := by
      intro L
      induction L with
      | nil => intro _; exact ⟨[], .nil, rfl, fun a ha => by cases ha⟩
      | cons p L ih =>
        intro hL
        obtain ⟨zs, z1, z2, z3⟩ := ih fun p' hp' => hL p' (List.mem_cons_of_mem _ hp')
        obtain ⟨g, pp, e, _, h, b⟩ := hits p (hL p List.mem_cons_self)
        refine ⟨(p.1 :: pp).reverse :: zs, .cons ⟨g, e, h⟩ z1, by rw [List.length_cons, z2, List.length_cons], fun a ha => ?_⟩
        rcases List.mem_cons.mp ha with z | z
        · subst z
          intro x hx
          refine hF.ok x ?_
          obtain ⟨_, b2, b3⟩ := bk_nd FN pp p.1 b
          rcases List.mem_cons.mp (List.mem_reverse.mp hx) with z | z
          · exact z ▸ B.inE _ ((B.dom _).mp b2)
          · exact B.inE _ ((B.dom _).mp (b3 x z).2)
        · exact z3 a z
    obtain ⟨zs, z1, z2, z3⟩ := hch its fun _ h => h
    rw [← ey] at z1
    refine ⟨_, rfl, Nat.zero_le _, fun e ne => ?_⟩
    have k4 := k13.new ne (o := .lst [])
    have ke := Kp.upd k3.w ne (o := .lst [])
    have e4 := ke.at e3
    refine eq_nil (zs := zs) e4 (L2.Paired.mapP z1 fun a b ⟨g, e', h⟩ => ⟨g, e', ke.at h⟩) upd_same z3 ⟨_, rfl, ?_⟩
    cases its with
    | nil =>
      have ez : zs = [] := List.length_eq_zero_iff.mp z2
      rw [decide_eq_true ez]
      refine iteT (q _ _ k4 (.inl ⟨rfl, fun _ => 0, s.cm, _, FN, fun x hx hxi hf hc => ?_⟩))
      obtain ⟨p, hp, _⟩ := hin2 x ((houts x).mpr ⟨hx, hxi, hf⟩) ((B.dom x).mp hc)
      cases hp
    | cons it0 its =>
      have ez : zs ≠ [] := fun z => by rw [z] at z2; cases z2
      rw [decide_eq_false ez]
      refine iteF ?_
      have e4' : (upd H3 e (.lst [])) D = some (.lst ((it0 :: its).map (·.2))) := by rw [e4, ey]
      refine ⟨_, rfl, D, _, 0, it0.2, rfl, rfl, SqL.of e4', atI_zero, ?_⟩
      refine ⟨_, rfl, 1, rfl, D, _, rfl, SqL.of e4', fun c nc => ?_⟩
      rw [List.map_cons, cutV_tail]
      have k5 := k4.new nc (o := .lst (its.map (·.2)))
      have kc := ke.trans (Kp.upd k4.w nc (o := .lst (its.map (·.2))))
      refine ⟨c, rfl, ⟨_, SqL.of upd_same⟩, ?_⟩
      refine forG (G := fun H7 => H7 c = some (.lst (its.map (·.2)))) (src_lstG (c := (·.2)) (its := its) fun _ g => g)
        (fun i σ H7 => ∃ best v6, best ∈ it0 :: its ∧ (∀ p, p ∈ it0 :: its.take i → dd best.1 ≤ dd p.1) ∧ σ = [some (.ref p1), some (.ref p2), some (.ref t), some (.ref d), some (.ref D), some best.2, v6, none] ∧ Kp R H3 H7 ∧ H7 c = some (.lst (its.map (·.2))))
        (fun i σ H7 ⟨_, _, _, _, _, _, g⟩ => g) ⟨it0, none, List.mem_cons_self, fun p hp => by (have := List.mem_singleton.mp hp; rw [this]; exact Int.le_refl _), rfl, kc, upd_same⟩ ?_ ?_
      · rintro i p σ H7 hp ⟨best, v6, hb, hm, rfl, k7, hc7⟩
        have hpi : p ∈ it0 :: its := List.mem_cons_of_mem _ (List.mem_of_getElem? hp)
        obtain ⟨g1, q1, f1, _, h1, b1⟩ := hits p hpi
        obtain ⟨g2, q2, f2, _, h2, b2⟩ := hits best hb
        have l1 := bk_len B q1 p.1 b1
        have l2 := bk_len B q2 best.1 b2
        refine ⟨_, rfl, g1, _, congrArg (fun v => [v]) f1, .inl (SqL.of (k7.at h1)), _, rfl, g2, _, congrArg (fun v => [v]) f2, .inl (SqL.of (k7.at h2)), _, _, rfl, rfl, _, rfl, ?_⟩
        rw [List.length_map, List.length_map, List.length_reverse, List.length_reverse]
        refine ite2 (fun hc => ?_) (fun hc => ?_)
        · have hlt := of_decide_eq_true hc
          refine ⟨_, rfl, p, _, hpi, fun p' hp' => ?_, rfl, k7, hc7⟩
          rw [take_succ_at hp, ← List.cons_append, List.mem_append] at hp'
          rcases hp' with z | z
          · have := hm p' z; omega
          · rw [List.mem_singleton.mp z]; exact Int.le_refl _
        · have hlt : ¬ _ < _ := fun z => hc (decide_eq_true z)
          refine ⟨best, _, hb, fun p' hp' => ?_, rfl, k7, hc7⟩
          rw [take_succ_at hp, ← List.cons_append, List.mem_append] at hp'
          rcases hp' with z | z
          · exact hm p' z
          · rw [List.mem_singleton.mp z]; omega
      · rintro σ H7 ⟨best, v6, hb, hm, rfl, k7, hc7⟩
        rw [List.take_length] at hm
        obtain ⟨g2, q2, f2, _, h2, b2⟩ := hits best hb
        obtain ⟨o1, o2⟩ := hin best hb
        obtain ⟨o3, o4, o5⟩ := (houts _).mp o1
        refine ⟨_, rfl, q H7 _ (k13.trans k7) (.inr ⟨g2, _, f2, k7.at h2, good_of hF.rk hG.rk i1 i2 sA FN b2 o4 o5 (fun y hy hya hyf hyc => ?_) (List.reverse_perm _)⟩)⟩
        obtain ⟨p, hp, e'⟩ := hin2 y ((houts y).mpr ⟨hy, hya, hyf⟩) ((B.dom y).mp hyc)
        have := hm p hp
        rw [e'] at this
        exact .inr ⟨rfl, this⟩

/-! ### sides_changed, greatest_lot -/
def spSides : Sp := fun vs H Q _ => ∃ (R : Reg) (a b : Addr) (A l : List Str), vs = [.ref a, .ref b] ∧ WInv R H ∧ H a = some (.tup (A.map V.str)) ∧ H b = some (.lst (l.map V.str)) ∧ A.length ≤ 8 ∧ l.length ≤ 8 ∧
  ∀ H' p, Kp R H H' → H p = none → H' p = some (.tup ((srt (les A l ++ les l A)).map V.str)) → Q (.ref p) H'
abbrev N_sides_changed : List Str := ["lot", "chain", "kept"]
theorem sc_sides_changed : FnScope N_sides_changed ["lot", "chain"] (defScope s_sides_changed) := ⟨rfl, rfl, rfl, by decide +kernel, rfl, by decide +kernel, by decide +kernel⟩
theorem c_sides_changed (T : Txt K mg) : Call P w K mg base 2 "sides_changed" ["lot", "chain"] spSides := by
  refine mkCall T.d_sides_changed sc_sides_changed (fun _ _ _ _ _ _ us hl => match us, hl with | [_, _], _ => rfl) (fun vs H Q E h => ?_) (fun cdv A outer s H vs Q E hr h => ?_)
  · obtain ⟨R, a, b, As, l, rfl, _⟩ := h; rfl
  · obtain ⟨R, a, b, As, l, rfl, wi, ha, hb, l1, l2, q⟩ := h
    refine ⟨_, (pss_cons (ps_set (i := 2) sc_sides_changed.nd rfl (Or.inl rfl) (pe_f (c_less T) hr (pa_cons (pv 0) (pa_cons (pv 1) pa_nil))))
      (pss_one (ps_ret (pe_callTy call_tuple_of (by rfl) T.f_tuple bt_tuple (pa_cons (pe_callB cr_sortedS (by rfl) T.f_sorted bt_sorted (pa_cons (pe_lst (StX.pa_star (pv 2) (StX.pa_star (pe_f (c_lessL T) hr (pa_cons (pv 1) (pa_cons (pv 0) pa_nil))) pa_nil))) pa_nil)) pa_nil))))), ?_⟩
    refine ⟨_, rfl, _, rfl, R, a, b, As, l, rfl, wi, ha, .inr hb, by omega, fun H1 e k1 ne he => ?_⟩
    refine ⟨_, rfl, e, _, rfl, .inl (SqT.of he), _, rfl, _, rfl, R, b, a, l, As, rfl, k1.w, k1.at hb, .inl (k1.at ha), by omega, fun H2 f k2 nf hf => ?_⟩
    have z1 : (les As l).length ≤ 8 := Nat.le_trans (List.length_filter_le _ _) l1
    have z2 : (les l As).length ≤ 8 := Nat.le_trans (List.length_filter_le _ _) l2
    refine ⟨f, _, rfl, .inl (SqT.of hf), ?_, fun g ng => ?_⟩
    · rw [List.append_nil, ← List.map_append, List.length_map, List.length_append]
      exact Nat.le_trans (show _ ≤ 8 + 8 from Nat.add_le_add z1 z2) (by decide)
    have k3 := (k1.trans k2).new ng (o := .lst ((les As l).map V.str ++ ((les l As).map V.str ++ [])))
    refine ⟨g, les As l ++ les l As, rfl, SqL.of (by rw [upd_same, List.append_nil, List.map_append]), by rw [List.length_append]; omega, fun ys p hp hs np => ?_⟩
    rw [sorted_is hp hs]
    have k4 := k3.new np (o := .lst ((srt (les As l ++ les l As)).map V.str))
    exact ⟨p, _, rfl, .inl ⟨SqL.of upd_same, fun t nt => q _ t (k4.new nt) (k4.fr nt) upd_same⟩⟩
def spGreatest (K : PySem.W.Frag) : Sp := fun vs H Q _ => ∃ (R : Reg) (p1 p2 : Addr) (nm : List Str) (r1 r2 : List Str → Nat), vs = [.ref p1, .ref p2] ∧ WInv R H ∧ FamS K R H p1 nm r1 ∧ FamS K R H p2 nm r2 ∧
  ∀ H' t A, Kp R H H' → H' t = some (.tup (A.map V.str)) → Lot nm A → Bf.Ind r1 A → Bf.Ind r2 A → NoFwd r1 r2 nm A → Q (.ref t) H'
abbrev N_greatest_lot : List Str := ["one", "other", "lot", "chain"]
theorem sc_greatest_lot : FnScope N_greatest_lot ["one", "other"] (defScope s_greatest_lot) := ⟨rfl, rfl, rfl, by decide +kernel, rfl, by decide +kernel, by decide +kernel⟩
theorem c_greatest_lot (T : Txt K mg) : Call P w K mg base 11 "greatest_lot" ["one", "other"] (spGreatest K) := by
  refine mkCall T.d_greatest_lot sc_greatest_lot (fun _ _ _ _ _ _ us hl => match us, hl with | [_, _], _ => rfl) (fun vs H Q E h => ?_) (fun cdv A outer s H vs Q E hr h => ?_)
  · obtain ⟨R, p1, p2, nm, r1, r2, rfl, _⟩ := h; rfl
  · obtain ⟨R, p1, p2, nm, r1, r2, rfl, wi, hF, hG, q⟩ := h
    have l8 := hF.l8
    refine ⟨_, (pss_cons (ps_set (i := 2) sc_greatest_lot.nd rfl (Or.inl rfl) (pe_tup pa_nil))
      (pss_cons (ps_set (i := 3) sc_greatest_lot.nd rfl (Or.inl rfl) (pe_f (c_chain_of T) hr (pa_cons (pv 0) (pa_cons (pv 1) (pa_cons (pv 2) pa_nil)))))
      (pss_cons (ps_while PassesOwn.never (pt_cmpR op_notN (pv 3) pe_non (nomark _)) (pss_cons (ps_set (i := 2) sc_greatest_lot.nd rfl (Or.inl rfl) (pe_f (c_sides_changed T) hr (pa_cons (pv 2) (pa_cons (pv 3) pa_nil))))
      (pss_one (ps_set (i := 3) sc_greatest_lot.nd rfl (Or.inl rfl) (pe_f (c_chain_of T) hr (pa_cons (pv 0) (pa_cons (pv 1) (pa_cons (pv 2) pa_nil))))))))
      (pss_one (ps_ret (pv 2)))))), ?_⟩
    refine ⟨Nat.zero_le _, fun t nt => ?_⟩
    have k1 := Kp.upd wi nt (o := .tup [])
    have n1 : Bf.Ind r1 [] := hF.rk.nil
    have n2 : Bf.Ind r2 [] := hG.rk.nil
    refine ⟨_, rfl, _, rfl, _, rfl, R, p1, p2, t, nm, [], r1, r2, rfl, k1.w, hF.mono k1, hG.mono k1, upd_same, lot_nil nm, n1, n2, fun H2 v k2 hv => ?_⟩
    refine ⟨fun m σ H3 => ∃ (u : Addr) (A : List Str) (v : V), m = nm.length - A.length ∧ σ = [some (.ref p1), some (.ref p2), some (.ref u), some v] ∧ Kp R H H3 ∧ H3 u = some (.tup (A.map V.str)) ∧ Lot nm A ∧ Bf.Ind r1 A ∧ Bf.Ind r2 A ∧ ChainV r1 r2 nm A H3 v,
      ⟨_, t, [], v, rfl, rfl, k1.trans k2, k2.at upd_same, lot_nil nm, n1, n2, hv⟩, ?_⟩
    rintro m σ H3 ⟨u, A, v, rfl, rfl, k3, hu, hA, i1, i2, hv⟩
    have lA := lot_le hF.ss hA
    refine ⟨_, rfl, rfl, _, rfl, ?_⟩
    rcases hv with ⟨rfl, hn⟩ | ⟨c, l, rfl, hc, hgood⟩
    · exact iteF ⟨_, rfl, q H3 u A k3 hu hA i1 i2 hn⟩
    · have nl : l.length ≤ nm.length := Bf.nodup_le hgood.nd hgood.sub
      have nJ : (srt (les A l ++ les l A)).Nodup := (srt_ss (List.nodup_append.mpr ⟨(hA.ss hF.ss).nodup.filter _, hgood.nd.filter _, fun a ha b hb e => (mem_les.mp hb).2 (e ▸ (mem_les.mp ha).1)⟩)).nodup
      obtain ⟨j1, j2, j3, j4, _⟩ := hgood.grow (srt (les A l ++ les l A)) nJ fun z => by rw [mem_srt, List.mem_append, mem_les, mem_les]
      have hJ : Lot nm (srt (les A l ++ les l A)) := lot_of hF.ss (up_ss (srt_up _) nJ) j4
      have lJ := lot_le hF.ss hJ
      refine iteT ⟨fun σ H4 => ∃ (u' : Addr) (A' : List Str) (v : V), nm.length - A'.length < nm.length - A.length ∧ σ = [some (.ref p1), some (.ref p2), some (.ref u'), some v] ∧ Kp R H H4 ∧ H4 u' = some (.tup (A'.map V.str)) ∧ Lot nm A' ∧ Bf.Ind r1 A' ∧ Bf.Ind r2 A' ∧ ChainV r1 r2 nm A' H4 v, ?_, ?_⟩
      · rintro σ' H4 ⟨u', A', v, h0, rfl, h⟩
        exact ⟨_, h0, u', A', v, rfl, rfl, h⟩
      refine ⟨_, rfl, _, rfl, R, u, c, A, l, rfl, k3.w, hu, hc, by omega, by omega, fun H4 g k4 ng hg => ?_⟩
      have k34 := k3.trans k4
      refine ⟨_, rfl, _, rfl, _, rfl, R, p1, p2, g, nm, _, r1, r2, rfl, k4.w, hF.mono k34, hG.mono k34, hg, hJ, j1, j2, fun H5 v k5 hv => ?_⟩
      exact ⟨g, _, v, by omega, rfl, k34.trans k5, k5.at hg, hJ, j1, j2, hv⟩
end
end Bw
set_option Elab.async false
set_option linter.all false
set_option maxRecDepth 100000
set_option maxHeartbeats 4000000
/-! both.py: what its users call -/
namespace Bm
open PySem PySem.Spec PyProof.Rows Bs Bf
/-- how many things a greatest common lot has -/
def mx (r1 r2 : List Str → Nat) (nm : List Str) : Nat := ((subs nm).map fun A => if fre r1 A && fre r2 A then A.length else 0).foldr max 0
theorem le_fmax : ∀ {l : List Nat} {x : Nat}, x ∈ l → x ≤ l.foldr max 0
  | y :: l, x, h => by
    rw [List.foldr_cons]
    rcases List.mem_cons.mp h with e | e
    · exact e ▸ Nat.le_max_left _ _
    · exact Nat.le_trans (le_fmax e) (Nat.le_max_right _ _)
theorem fmax_le : ∀ {l : List Nat} {n : Nat}, (∀ x, x ∈ l → x ≤ n) → l.foldr max 0 ≤ n
  | [], n, _ => Nat.zero_le _
  | y :: l, n, h => by
    rw [List.foldr_cons]
    exact Nat.max_le.mpr ⟨h y List.mem_cons_self, fmax_le fun x hx => h x (List.mem_cons_of_mem _ hx)⟩
theorem subs_sub : ∀ (nm : List Str) {A : List Str}, A ∈ subs nm → ∀ x, x ∈ A → x ∈ nm
  | [], A, h, x, hx => by
    have : A = [] := by simpa [subs] using h
    rw [this] at hx; cases hx
  | y :: nm, A, h, x, hx => by
    have h' : A ∈ subs nm ++ (subs nm).map (y :: ·) := h
    rcases List.mem_append.mp h' with q | q
    · exact List.mem_cons_of_mem _ (subs_sub nm q x hx)
    · obtain ⟨B, hB, rfl⟩ := List.mem_map.mp q
      rcases List.mem_cons.mp hx with z | z
      · exact z ▸ List.mem_cons_self
      · exact List.mem_cons_of_mem _ (subs_sub nm hB x z)
theorem lot_subs {nm A : List Str} (h : Lot nm A) : A ∈ subs nm := by
  rw [h]; exact filter_subs _ nm
section
variable {r1 r2 : List Str → Nat} {nm A : List Str}
theorem le_mx (hA : Lot nm A) (i1 : Ind r1 A) (i2 : Ind r2 A) : A.length ≤ mx r1 r2 nm := by
  refine le_fmax (List.mem_map.mpr ⟨A, lot_subs hA, ?_⟩)
  rw [fre_iff.mpr i1, fre_iff.mpr i2]; rfl
theorem mx_le {n : Nat} (h : ∀ B, (∀ x, x ∈ B → x ∈ nm) → Ind r1 B → Ind r2 B → B.length ≤ n) : mx r1 r2 nm ≤ n := by
  refine fmax_le fun x hx => ?_
  obtain ⟨B, hB, rfl⟩ := List.mem_map.mp hx
  split
  · rename_i hc
    rw [Bool.and_eq_true] at hc
    exact h B (subs_sub nm hB) (fre_iff.mp hc.1) (fre_iff.mp hc.2)
  · exact Nat.zero_le _
theorem mx_eq (R1 : IsRk r1) (R2 : IsRk r2) (hA : Lot nm A) (i1 : Ind r1 A) (i2 : Ind r2 A) (n : NoFwd r1 r2 nm A) : mx r1 r2 nm = A.length :=
  Nat.le_antisymm (mx_le fun B s b1 b2 => nofwd_max R1 R2 i1 i2 (fun x hx => hA.sub hx) n B b1 b2 s) (le_mx hA i1 i2)
end
theorem dfn_vals (l : List Str) (g : Str → L2.V) : ((DFn l g).map fun kv => L2.kV kv.1) = l.map L2.V.str := by
  unfold DFn; rw [List.map_map]; rfl
end Bm
namespace Bw
open PySem PySem.Spec PyProof.Rows L2 Bt Bs Bm
section
variable {P : Program} {w : World} {K : PySem.W.Frag} {mg : Str → Option Value} {base : Heap}
def spReach (K : PySem.W.Frag) : Sp := fun vs H Q _ => ∃ (R : Reg) (p1 p2 t : Addr) (nm A : List Str) (r1 r2 : List Str → Nat), vs = [.ref p1, .ref p2, .ref t] ∧ WInv R H ∧ FamS K R H p1 nm r1 ∧ FamS K R H p2 nm r2 ∧ H t = some (.tup (A.map V.str)) ∧ Lot nm A ∧
  Bf.Ind r1 A ∧ Bf.Ind r2 A ∧ NoFwd r1 r2 nm A ∧ ∀ H' l X, Kp R H H' → H l = none → H' l = some (.lst (X.map V.str)) → Lot nm X → r1 X + r2 (les nm X) = A.length → Q (.ref l) H'
abbrev N_reaching : List Str := ["one", "other", "lot"]
theorem sc_reaching : FnScope N_reaching ["one", "other", "lot"] (defScope s_reaching) := ⟨rfl, rfl, rfl, by decide +kernel, rfl, by decide +kernel, by decide +kernel⟩
theorem c_reaching (T : Txt K mg) : Call P w K mg base 10 "reaching" ["one", "other", "lot"] (spReach K) := by
  refine mkCall T.d_reaching sc_reaching (fun _ _ _ _ _ _ us hl => match us, hl with | [_, _, _], _ => rfl) (fun vs H Q E h => ?_) (fun cdv A outer s H vs Q E hr h => ?_)
  · obtain ⟨R, p1, p2, t, nm, As, r1, r2, rfl, _⟩ := h; rfl
  · obtain ⟨R, p1, p2, t, nm, As, r1, r2, rfl, wi, hF, hG, ht, hA, i1, i2, hn, q⟩ := h
    have l8 := hF.l8
    have sA : ∀ x, x ∈ As → x ∈ nm := fun x hx => hA.sub hx
    refine ⟨_, (pss_one (ps_ret (pe_callB cr_sortedS (by rfl) T.f_sorted bt_sorted (pa_cons (pe_callTy (call_listD rfl) (by rfl) T.f_list bt_list (pa_cons (pe_f (c_came_from T) hr (pa_cons (pv 1) (pa_cons (pv 0) (pa_cons (pv 2) pa_nil)))) pa_nil)) pa_nil)))), ?_⟩
    refine ⟨_, rfl, _, rfl, _, rfl, R, p2, p1, t, nm, As, r2, r1, rfl, wi, hG, hF, ht, hA, fun H1 d s dd k1 nd hd B => ?_⟩
    have e := back_sum hF.rk hG.rk i1 i2 sA hn B
    have ln : s.ks.length ≤ nm.length := Bf.nodup_le B.nd B.inE
    refine ⟨d, _, rfl, Rd.of hd, fun l nl => ?_⟩
    rw [dfn_vals]
    have k2 := k1.new nl (o := .lst (s.ks.map V.str))
    refine ⟨l, s.ks, rfl, SqL.of upd_same, by omega, fun ys p hp hs np => ?_⟩
    rw [sorted_is hp hs]
    refine q _ p (srt s.ks) (k2.new np) (k2.fr np) upd_same (lot_of hF.ss (srt_ss B.nd) fun x hx => B.inE x (mem_srt.mp hx)) ?_
    have e1 : r1 (srt s.ks) = r1 s.ks := hF.rk.ext _ _ fun x => mem_srt
    have e2 : les nm (srt s.ks) = les nm s.ks := List.filter_congr fun x _ => by
      by_cases h : x ∈ s.ks
      · simp [h, mem_srt]
      · simp [h, mem_srt]
    rw [e1, e2]; exact e
def spBoth (K : PySem.W.Frag) : Sp := fun vs H Q _ => ∃ (R : Reg) (p1 p2 : Addr) (nm : List Str) (r1 r2 : List Str → Nat), vs = [.ref p1, .ref p2] ∧ WInv R H ∧ FamS K R H p1 nm r1 ∧ FamS K R H p2 nm r2 ∧
  ∀ H' t l1 l2 A X, Kp R H H' → H t = none → H' t = some (.tup [.ref l1, .ref l2]) → H' l1 = some (.lst (A.map V.str)) → H' l2 = some (.lst (X.map V.str)) → Lot nm A → Lot nm X → Bf.Ind r1 A → Bf.Ind r2 A → A.length = mx r1 r2 nm → r1 X + r2 (les nm X) = A.length → Q (.ref t) H'
abbrev N_both : List Str := ["one", "other", "lot"]
theorem sc_both : FnScope N_both ["one", "other"] (defScope s_both) := ⟨rfl, rfl, rfl, by decide +kernel, rfl, by decide +kernel, by decide +kernel⟩
theorem c_both (T : Txt K mg) : Call P w K mg base 12 "both" ["one", "other"] (spBoth K) := by
  refine mkCall T.d_both sc_both (fun _ _ _ _ _ _ us hl => match us, hl with | [_, _], _ => rfl) (fun vs H Q E h => ?_) (fun cdv A outer s H vs Q E hr h => ?_)
  · obtain ⟨R, p1, p2, nm, r1, r2, rfl, _⟩ := h; rfl
  · obtain ⟨R, p1, p2, nm, r1, r2, rfl, wi, hF, hG, q⟩ := h
    refine ⟨_, (pss_cons (ps_expr (pe_f (c_need_alike T) hr (pa_cons (pv 0) (pa_cons (pv 1) pa_nil))))
      (pss_cons (ps_set (i := 2) sc_both.nd rfl (Or.inl rfl) (pe_f (c_greatest_lot T) hr (pa_cons (pv 0) (pa_cons (pv 1) pa_nil))))
      (pss_one (ps_ret (pe_tup (pa_cons (pe_callTy call_list_of (by rfl) T.f_list bt_list (pa_cons (pv 2) pa_nil)) (pa_cons (pe_f (c_reaching T) hr (pa_cons (pv 0) (pa_cons (pv 1) (pa_cons (pv 2) pa_nil)))) pa_nil))))))), ?_⟩
    refine ⟨_, rfl, _, rfl, R, p1, p2, nm, r1, r2, rfl, wi, hF, hG, fun H1 k1 => ?_⟩
    refine ⟨_, rfl, _, rfl, R, p1, p2, nm, r1, r2, rfl, k1.w, hF.mono k1, hG.mono k1, fun H2 t A k2 ht hA i1 i2 hn => ?_⟩
    have k12 := k1.trans k2
    refine ⟨_, rfl, t, _, rfl, .inr (SqT.of ht), fun l1 nl1 => ?_⟩
    have k3 := k12.new nl1 (o := .lst (A.map V.str))
    have ku := Kp.upd k2.w nl1 (o := .lst (A.map V.str))
    refine ⟨_, rfl, _, rfl, _, rfl, R, p1, p2, t, nm, A, r1, r2, rfl, k3.w, hF.mono k3, hG.mono k3, ku.at ht, hA, i1, i2, hn, fun H4 l2 X k4 nl2 hl2 hX e => ?_⟩
    have k34 := k3.trans k4
    refine ⟨by show 2 ≤ sizeLine; decide, fun g ng => ?_⟩
    have kg := Kp.upd k4.w ng (o := .tup [V.ref l1, V.ref l2])
    exact q _ g l1 l2 A X (k34.trans kg) (k34.fr ng) upd_same ((k4.trans kg).at upd_same) (kg.at hl2) hA hX i1 i2 (mx_eq hF.rk hG.rk hA i1 i2 hn).symm e
def spBothFault (K : PySem.W.Frag) : Sp := fun vs H Q _ => ∃ (R : Reg) (p1 p2 a b : Addr) (nm A X : List Str) (r1 r2 : List Str → Nat), vs = [.ref p1, .ref p2, .ref a, .ref b] ∧ WInv R H ∧ FamS K R H p1 nm r1 ∧ FamS K R H p2 nm r2 ∧
  H a = some (.lst (A.map V.str)) ∧ H b = some (.lst (X.map V.str)) ∧ Lot nm A ∧ Lot nm X ∧ Bf.Ind r1 A ∧ Bf.Ind r2 A ∧ r1 X + r2 (les nm X) = A.length ∧ ∀ H', Kp R H H' → Q .non H'
abbrev N_both_fault : List Str := ["one", "other", "lot", "x", "total"]
theorem sc_both_fault : FnScope N_both_fault ["one", "other", "lot", "x"] (defScope s_both_fault) := ⟨rfl, rfl, rfl, by decide +kernel, rfl, by decide +kernel, by decide +kernel⟩
theorem c_both_fault (T : Txt K mg) : Call P w K mg base 8 "both_fault" ["one", "other", "lot", "x"] (spBothFault K) := by
  obtain ⟨fr, F_c_Family_rank_of, b_c_Family_rank_of⟩ := (c_rank_of (P := P) (w := w) (base := base) T).ex
  refine mkCall T.d_both_fault sc_both_fault (fun _ _ _ _ _ _ us hl => match us, hl with | [_, _, _, _], _ => rfl) (fun vs H Q E h => ?_) (fun cdv A outer s H vs Q E hr h => ?_)
  · obtain ⟨R, p1, p2, a, b, nm, A, X, r1, r2, rfl, _⟩ := h; rfl
  · obtain ⟨R, p1, p2, a, b, nm, A, X, r1, r2, rfl, wi, hF, hG, ha, hb, hA, hX, i1, i2, e, q⟩ := h
    have l8 := hF.l8
    have lA := lot_le hF.ss hA
    have lX := lot_le hF.ss hX
    have sA := srt_of_ss (hA.ss hF.ss)
    have sX := srt_of_ss (hX.ss hF.ss)
    obtain ⟨dx, n1, o1, d1, g1, hn1⟩ := hF.nmA
    obtain ⟨dx2, n2, o2, d2, g2, hn2⟩ := hG.nmA
    refine ⟨_, (pss_cons (ps_expr (pe_f (c_need_alike T) hr (pa_cons (pv 0) (pa_cons (pv 1) pa_nil))))
      (pss_cons (ps_if (pt_not (pt_val (pe_f (c_is_lot T) hr (pa_cons (pe_fld (pv 0) rfl) (pa_cons (pv 2) pa_nil))))) (pss_one (ps_ret pe_str)) pss_nil)
      (pss_cons (ps_if (pt_not (pt_val (pe_f (c_is_free_tuple T) hr (pa_cons (pv 0) (pa_cons (pe_callTy call_tuple_of (by rfl) T.f_tuple bt_tuple (pa_cons (pe_callB cr_sortedS (by rfl) T.f_sorted bt_sorted (pa_cons (pv 2) pa_nil)) pa_nil)) pa_nil))))) (pss_one (ps_ret pe_str)) pss_nil)
      (pss_cons (ps_if (pt_not (pt_val (pe_f (c_is_free_tuple T) hr (pa_cons (pv 1) (pa_cons (pe_callTy call_tuple_of (by rfl) T.f_tuple bt_tuple (pa_cons (pe_callB cr_sortedS (by rfl) T.f_sorted bt_sorted (pa_cons (pv 2) pa_nil)) pa_nil)) pa_nil))))) (pss_one (ps_ret pe_str)) pss_nil)
      (pss_cons (ps_if (pt_not (pt_val (pe_f (c_is_lot T) hr (pa_cons (pe_fld (pv 0) rfl) (pa_cons (pv 3) pa_nil))))) (pss_one (ps_ret pe_str)) pss_nil)
      (pss_cons (ps_set (i := 4) sc_both_fault.nd rfl (Or.inl rfl) (pe_op op_add (pe_meth (pv 0) T.c_Family T.h_Family_rank_of F_c_Family_rank_of (hr.mono (by decide)) b_c_Family_rank_of .nil pass0 (pa_cons (pe_callTy call_tuple_of (by rfl) T.f_tuple bt_tuple (pa_cons (pe_callB cr_sortedS (by rfl) T.f_sorted bt_sorted (pa_cons (pv 3) pa_nil)) pa_nil)) pa_nil)) (pe_meth (pv 1) T.c_Family T.h_Family_rank_of F_c_Family_rank_of (hr.mono (by decide)) b_c_Family_rank_of .nil pass0 (pa_cons (pe_f (c_less T) hr (pa_cons (pe_fld (pv 0) rfl) (pa_cons (pv 3) pa_nil))) pa_nil))))
      (pss_one (ps_ret (pe_ifExp (pt_cmpR op_eq (pv 4) (pe_callB call_len_seq (by rfl) T.f_len bt_len (pa_cons (pv 2) pa_nil)) (nomark _)) pe_non pe_str))))))))), ?_⟩
    refine ⟨_, rfl, _, rfl, R, p1, p2, nm, r1, r2, rfl, wi, hF, hG, fun H1 k1 => ?_⟩
    refine ⟨_, rfl, p1, _, dx, _, _, rfl, k1.at g1, T.c_Family, T.n_Family_names, rfl, _, rfl, R, a, n1, nm, A, rfl, k1.w, k1.at ha, k1.at hn1, (hA.ss hF.ss).nodup, fun x hx => hA.sub hx, by omega, fun H2 k2 => ⟨_, rfl, iteF ?_⟩⟩
    have k12 := k1.trans k2
    refine ⟨_, rfl, _, rfl, a, A, rfl, SqL.of (k12.at ha), by omega, fun ys p hp hs np => ?_⟩
    rw [sorted_is hp hs, sA]
    have k3 := k12.new np (o := .lst (A.map V.str))
    refine ⟨p, _, rfl, .inl ⟨SqL.of upd_same, fun t nt => ?_⟩⟩
    have k4 := k3.new nt (o := .tup (A.map V.str))
    refine ⟨R, p1, t, nm, A, r1, rfl, k4.w, hF.mono k4, upd_same, hA, fun H5 k5 => ⟨_, rfl, ?_⟩⟩
    rw [fre_iff.mpr i1]
    refine iteF ?_
    have k45 := k4.trans k5
    refine ⟨_, rfl, _, rfl, a, A, rfl, SqL.of (k45.at ha), by omega, fun ys' p' hp' hs' np' => ?_⟩
    rw [sorted_is hp' hs', sA]
    have k6 := k45.new np' (o := .lst (A.map V.str))
    refine ⟨p', _, rfl, .inl ⟨SqL.of upd_same, fun t' nt' => ?_⟩⟩
    have k7 := k6.new nt' (o := .tup (A.map V.str))
    refine ⟨R, p2, t', nm, A, r2, rfl, k7.w, hG.mono k7, upd_same, hA, fun H8 k8 => ⟨_, rfl, ?_⟩⟩
    rw [fre_iff.mpr i2]
    refine iteF ?_
    have k78 := k7.trans k8
    refine ⟨_, rfl, p1, _, dx, _, _, rfl, k78.at g1, T.c_Family, T.n_Family_names, rfl, _, rfl, R, b, n1, nm, X, rfl, k78.w, k78.at hb, k78.at hn1, (hX.ss hF.ss).nodup, fun x hx => hX.sub hx, by omega, fun H9 k9 => ⟨_, rfl, iteF ?_⟩⟩
    have k79 := k78.trans k9
    refine ⟨_, rfl, p1, dx, _, rfl, k79.at g1, rfl, _, rfl, b, X, rfl, SqL.of (k79.at hb), by omega, fun ys2 p2' hp2 hs2 np2 => ?_⟩
    rw [sorted_is hp2 hs2, sX]
    have ka := k79.new np2 (o := .lst (X.map V.str))
    refine ⟨p2', _, rfl, .inl ⟨SqL.of upd_same, fun t2 nt2 => ?_⟩⟩
    have kb := ka.new nt2 (o := .tup (X.map V.str))
    refine ⟨R, p1, t2, nm, X, r1, rfl, kb.w, hF.mono kb, upd_same, hX, fun Hc kc => ?_⟩
    have kbc := kb.trans kc
    refine ⟨_, rfl, p2, dx2, _, rfl, kbc.at g2, rfl, _, rfl, p1, _, dx, _, _, rfl, kbc.at g1, T.c_Family, T.n_Family_names, rfl, _, rfl, R, n1, b, nm, X, rfl, kbc.w, kbc.at hn1, .inr (kbc.at hb), by omega, fun Hd f kd nf hf => ?_⟩
    have kbd := kbc.trans kd
    refine ⟨R, p2, f, nm, _, r2, rfl, kbd.w, hG.mono kbd, hf, lot_les hF.ss lot_self X, fun He' ke => ?_⟩
    have kbe := kbd.trans ke
    refine ⟨_, _, rfl, rfl, ?_⟩
    refine ⟨_, rfl, _, rfl, a, _, rfl, .inl (SqL.of (kbe.at ha)), rfl, _, rfl, ?_⟩
    have e' : decide (V.int ((r1 X : Int) + (r2 (les nm X) : Int)) = V.int (((A.map V.str).length : Nat) : Int)) = true := by
      rw [List.length_map]
      refine decide_eq_true (congrArg V.int ?_)
      omega
    rw [e']
    exact iteT (q He' kbe)

/-! ### needed, possible -/
def spNeeded (K : PySem.W.Frag) (sel : List Str → List Str → (List Str → Nat) → (List Str → Nat) → List Str) : Sp := fun vs H Q _ => ∃ (R : Reg) (p1 p2 : Addr) (nm : List Str) (r1 r2 : List Str → Nat), vs = [.ref p1, .ref p2] ∧ WInv R H ∧ FamB K R H p1 nm r1 ∧ FamB K R H p2 nm r2 ∧
  ∀ H' l A, Kp R H H' → H l = none → Lot nm A → Bf.Ind r1 A → Bf.Ind r2 A → A.length = mx r1 r2 nm → H' l = some (.lst ((sel nm A r1 r2).map V.str)) → Q (.ref l) H'
def selN (nm A : List Str) (r1 r2 : List Str → Nat) : List Str := A.filter fun x => decide (mx (drwRk r1 []) (drwRk r2 []) (les nm [x]) < A.length)
def selP (nm A : List Str) (r1 r2 : List Str → Nat) : List Str := nm.filter fun x => (decide (x ∈ A) || (fre r1 [x] && fre r2 [x])) && decide (mx (drwRk r1 [x]) (drwRk r2 [x]) (les nm [x]) + 1 = A.length)
abbrev N_needed : List Str := ["one", "other", "lot", "found", "thing"]
theorem sc_needed : FnScope N_needed ["one", "other"] (defScope s_needed) := ⟨rfl, rfl, rfl, by decide +kernel, rfl, by decide +kernel, by decide +kernel⟩
theorem c_needed (T : Txt K mg) : Call P w K mg base 12 "needed" ["one", "other"] (spNeeded K selN) := by
  refine mkCall T.d_needed sc_needed (fun _ _ _ _ _ _ us hl => match us, hl with | [_, _], _ => rfl) (fun vs H Q E h => ?_) (fun cdv A outer s H vs Q E hr h => ?_)
  · obtain ⟨R, p1, p2, nm, r1, r2, rfl, _⟩ := h; rfl
  · obtain ⟨R, p1, p2, nm, r1, r2, rfl, wi, hF, hG, q⟩ := h
    have ss := hF.s.ss
    have l8 := hF.s.l8
    refine ⟨_, (pss_cons (ps_expr (pe_f (c_need_alike T) hr (pa_cons (pv 0) (pa_cons (pv 1) pa_nil))))
      (pss_cons (ps_set (i := 2) sc_needed.nd rfl (Or.inl rfl) (pe_f (c_greatest_lot T) hr (pa_cons (pv 0) (pa_cons (pv 1) pa_nil))))
      (pss_cons (ps_set (i := 3) sc_needed.nd rfl (Or.inl rfl) (pe_lst pa_nil))
      (pss_cons (ps_for PassesOwn.never rfl (pi_tup (pv 2)) (pg_name (i := 4) sc_needed.nd rfl (by first | exact Or.inl rfl | exact Or.inr rfl)) (pss_one (ps_if (pt_cmpR op_lt (pe_callB call_len_seq (by rfl) T.f_len bt_len (pa_cons (pe_f (c_greatest_lot T) hr (pa_cons (pe_f (c_without T) hr (pa_cons (pv 0) (pa_cons (pe_lst (pa_cons (pv 4) pa_nil)) pa_nil))) (pa_cons (pe_f (c_without T) hr (pa_cons (pv 1) (pa_cons (pe_lst (pa_cons (pv 4) pa_nil)) pa_nil))) pa_nil))) pa_nil)) (pe_callB call_len_seq (by rfl) T.f_len bt_len (pa_cons (pv 2) pa_nil)) (nomark _)) (pss_one (ps_expr (pe_bm PySem.F.plainAttrs_list PySem.F.slot_list_append PySem.F.type_list_append mt_append (pv 3) (pa_cons (pv 4) pa_nil)))) pss_nil)))
      (pss_one (ps_ret (pv 3))))))), ?_⟩
    refine ⟨_, rfl, _, rfl, R, p1, p2, nm, r1, r2, rfl, wi, hF.s, hG.s, fun H1 k1 => ?_⟩
    refine ⟨_, rfl, _, rfl, R, p1, p2, nm, r1, r2, rfl, k1.w, hF.s.mono k1, hG.s.mono k1, fun H2 t A k2 ht hA i1 i2 hn => ?_⟩
    have k12 := k1.trans k2
    have lA := lot_le ss hA
    refine ⟨Nat.zero_le _, fun l nl => ?_⟩
    have k3 := k12.new nl (o := .lst [])
    have nlH := k12.fr nl
    refine ⟨_, rfl, t, rfl, ⟨_, SqT.of ((Kp.upd k2.w nl).at ht)⟩, ?_⟩
    refine forG (G := fun H4 => H4 t = some (.tup (A.map V.str))) (src_tupG (c := V.str) (its := A) fun _ g => g)
      (fun i σ H4 => ∃ v4, σ = [some (.ref p1), some (.ref p2), some (.ref t), some (.ref l), v4] ∧ Kp R H H4 ∧ H4 t = some (.tup (A.map V.str)) ∧ H4 l = some (.lst (((A.take i).filter fun x => decide (mx (drwRk r1 []) (drwRk r2 []) (les nm [x]) < A.length)).map V.str)))
      (fun i σ H4 ⟨_, _, _, g, _⟩ => g) ⟨none, rfl, k3, (Kp.upd k2.w nl).at ht, upd_same⟩ ?_ ?_
    · rintro i x σ H4 hx ⟨v4, rfl, k4, ht4, hl4⟩
      have hxA : x ∈ A := List.mem_of_getElem? hx
      have hxn : x ∈ nm := hA.sub hxA
      refine ⟨_, rfl, _, rfl, by show 1 ≤ sizeLine; decide, fun u nu => ?_⟩
      have k5 := k4.new nu (o := .lst [V.str x])
      have ku := Kp.upd k4.w nu (o := .lst [V.str x])
      refine ⟨R, p1, u, nm, r1, x, rfl, k5.w, hF.mono k5, upd_same, hxn, fun R6 H6 f1 x6 k6 w6 hf1 => ?_⟩
      have k56 := k5.trans k6
      have kw6 : Kp R6 H6 H6 := Kp.refl w6
      refine ⟨_, rfl, _, rfl, by show 1 ≤ sizeLine; decide, fun u2 nu2 => ?_⟩
      have ku2 := Kp.upd w6 nu2 (o := .lst [V.str x])
      have k7 := k56.new nu2 (o := .lst [V.str x])
      refine ⟨R6, p2, u2, nm, r2, x, rfl, ku2.w, (hG.mono k7).ext x6, upd_same, hxn, fun R8 H8 f2 x8 k8 w8 hf2 => ?_⟩
      have k78 : Kp R H H8 := k7.trans (Kp.weak x6 k7.w k8)
      refine ⟨R8, f1, f2, les nm [x], drwRk r1 [], drwRk r2 [], rfl, w8, ((hf1.mono ku2).mono k8).ext x8, hf2, fun H9 t9 B k9 ht9 hB b1 b2 bn => ?_⟩
      have kw := Kp.weak (fun a y h => x8 a y (x6 a y h)) k78.w k9
      have k79 := k78.trans kw
      have kt : Kp R H4 H9 := ((ku.trans k6).trans (Kp.upd k6.w nu2)).trans ((Kp.weak x6 k7.w k8).trans kw)
      have mB := mx_eq (drw_rk hF.s.rk []) (drw_rk hG.s.rk []) hB b1 b2 bn
      refine ⟨t9, _, rfl, .inr (SqT.of ht9), _, rfl, t, _, rfl, .inr (SqT.of (kt.at ht4)), _, _, rfl, rfl, _, rfl, ?_⟩
      rw [List.length_map, List.length_map]
      have lt : ((A.take i).filter fun x => decide (mx (drwRk r1 []) (drwRk r2 []) (les nm [x]) < A.length)).length ≤ 8 := Nat.le_trans (List.length_filter_le _ _) (by rw [List.length_take]; omega)
      refine ite2 (fun hc => ?_) (fun hc => ?_)
      · have hlt := of_decide_eq_true hc
        refine ⟨_, rfl, .inl ⟨rfl, _, SqL.of (kt.at hl4)⟩, _, rfl, l, _, _, rfl, rfl, kt.at hl4, by rw [List.length_map]; exact Nat.lt_of_le_of_lt lt (by decide), ?_⟩
        refine ⟨_, rfl, k79.mut nlH, ?_, ?_⟩
        · rw [upd_ne fun z => by rw [z] at ht4; rw [ht4] at hl4; cases hl4]
          exact kt.at ht4
        · rw [upd_same, take_succ_at hx, List.filter_append, List.map_append]
          have : [x].filter (fun x => decide (mx (drwRk r1 []) (drwRk r2 []) (les nm [x]) < A.length)) = [x] := by
            rw [List.filter_cons, decide_eq_true (by omega), if_pos rfl]; rfl
          rw [this]; rfl
      · have hlt : ¬ _ < _ := fun z => hc (decide_eq_true z)
        refine ⟨_, rfl, k79, kt.at ht4, ?_⟩
        rw [take_succ_at hx, List.filter_append]
        have : [x].filter (fun x => decide (mx (drwRk r1 []) (drwRk r2 []) (les nm [x]) < A.length)) = [] := by
          rw [List.filter_cons, decide_eq_false (by omega), if_neg Bool.false_ne_true]; rfl
        rw [this, List.append_nil]
        exact kt.at hl4
    · rintro σ H4 ⟨v4, rfl, k4, ht4, hl4⟩
      rw [List.take_length] at hl4
      exact ⟨_, rfl, q H4 l A k4 nlH hA i1 i2 (mx_eq hF.s.rk hG.s.rk hA i1 i2 hn).symm hl4⟩
abbrev N_possible : List Str := ["one", "other", "lot", "found", "thing", "rest"]
theorem sc_possible : FnScope N_possible ["one", "other"] (defScope s_possible) := ⟨rfl, rfl, rfl, by decide +kernel, rfl, by decide +kernel, by decide +kernel⟩
theorem c_possible (T : Txt K mg) : Call P w K mg base 12 "possible" ["one", "other"] (spNeeded K selP) := by
  refine mkCall T.d_possible sc_possible (fun _ _ _ _ _ _ us hl => match us, hl with | [_, _], _ => rfl) (fun vs H Q E h => ?_) (fun cdv A outer s H vs Q E hr h => ?_)
  · obtain ⟨R, p1, p2, nm, r1, r2, rfl, _⟩ := h; rfl
  · obtain ⟨R, p1, p2, nm, r1, r2, rfl, wi, hF, hG, q⟩ := h
    have ss := hF.s.ss
    have l8 := hF.s.l8
    obtain ⟨dx, n1, o1, d1, g1, hn1⟩ := hF.s.nmA
    refine ⟨_, (pss_cons (ps_expr (pe_f (c_need_alike T) hr (pa_cons (pv 0) (pa_cons (pv 1) pa_nil))))
      (pss_cons (ps_set (i := 2) sc_possible.nd rfl (Or.inl rfl) (pe_f (c_greatest_lot T) hr (pa_cons (pv 0) (pa_cons (pv 1) pa_nil))))
      (pss_cons (ps_set (i := 3) sc_possible.nd rfl (Or.inl rfl) (pe_lst pa_nil))
      (pss_cons (ps_for PassesOwn.never rfl (pi_tup (pe_fld (pv 0) rfl)) (pg_name (i := 4) sc_possible.nd rfl (by first | exact Or.inl rfl | exact Or.inr rfl)) (pss_one (ps_if (PW.pt (pw_or (pt_cmpR op_in_seq (pv 4) (pv 2) (by rfl)) (pw_or1 (PW.pt (pw_and (pt_val (pe_f (c_is_free_tuple T) hr (pa_cons (pv 0) (pa_cons (pe_tup (pa_cons (pv 4) pa_nil)) pa_nil)))) (pw_and1 (pt_val (pe_f (c_is_free_tuple T) hr (pa_cons (pv 1) (pa_cons (pe_tup (pa_cons (pv 4) pa_nil)) pa_nil)))))))))) (pss_cons (ps_set (i := 5) sc_possible.nd rfl (Or.inl rfl) (pe_f (c_greatest_lot T) hr (pa_cons (pe_f (c_drawn_in T) hr (pa_cons (pv 0) (pa_cons (pe_lst (pa_cons (pv 4) pa_nil)) pa_nil))) (pa_cons (pe_f (c_drawn_in T) hr (pa_cons (pv 1) (pa_cons (pe_lst (pa_cons (pv 4) pa_nil)) pa_nil))) pa_nil))))
      (pss_one (ps_if (pt_cmpR op_eq (pe_op op_add (pe_callB call_len_seq (by rfl) T.f_len bt_len (pa_cons (pv 5) pa_nil)) pe_int) (pe_callB call_len_seq (by rfl) T.f_len bt_len (pa_cons (pv 2) pa_nil)) (nomark _)) (pss_one (ps_expr (pe_bm PySem.F.plainAttrs_list PySem.F.slot_list_append PySem.F.type_list_append mt_append (pv 3) (pa_cons (pv 4) pa_nil)))) pss_nil))) pss_nil)))
      (pss_one (ps_ret (pv 3))))))), ?_⟩
    refine ⟨_, rfl, _, rfl, R, p1, p2, nm, r1, r2, rfl, wi, hF.s, hG.s, fun H1 k1 => ?_⟩
    refine ⟨_, rfl, _, rfl, R, p1, p2, nm, r1, r2, rfl, k1.w, hF.s.mono k1, hG.s.mono k1, fun H2 t A k2 ht hA i1 i2 hn => ?_⟩
    have k12 := k1.trans k2
    have lA := lot_le ss hA
    refine ⟨Nat.zero_le _, fun l nl => ?_⟩
    have k3 := k12.new nl (o := .lst [])
    have nlH := k12.fr nl
    refine ⟨_, rfl, p1, _, dx, _, _, rfl, k3.at g1, T.c_Family, T.n_Family_names, rfl, n1, rfl, ⟨_, SqT.of (k3.at hn1)⟩, ?_⟩
    refine forG (G := fun H4 => H4 n1 = some (.tup (nm.map V.str))) (src_tupG (c := V.str) (its := nm) fun _ g => g)
      (fun i σ H4 => ∃ v4 v5, σ = [some (.ref p1), some (.ref p2), some (.ref t), some (.ref l), v4, v5] ∧ Kp R H H4 ∧ H4 t = some (.tup (A.map V.str)) ∧ H4 l = some (.lst (((nm.take i).filter fun x => (decide (x ∈ A) || (fre r1 [x] && fre r2 [x])) && decide (mx (drwRk r1 [x]) (drwRk r2 [x]) (les nm [x]) + 1 = A.length)).map V.str)))
      (fun i σ H4 ⟨_, _, _, k, _⟩ => k.at hn1) ⟨none, none, rfl, k3, (Kp.upd k2.w nl).at ht, upd_same⟩ ?_ ?_
    · rintro i x σ H4 hx ⟨v4, v5, rfl, k4, ht4, hl4⟩
      have hxn : x ∈ nm := List.mem_of_getElem? hx
      have lx : Lot nm [x] := lot_of ss (by simp [SS]) (fun y hy => (by have := List.mem_singleton.mp hy; exact this ▸ hxn))
      have lt : ((nm.take i).filter fun x => (decide (x ∈ A) || (fre r1 [x] && fre r2 [x])) && decide (mx (drwRk r1 [x]) (drwRk r2 [x]) (les nm [x]) + 1 = A.length)).length ≤ 8 := Nat.le_trans (List.length_filter_le _ _) (by rw [List.length_take]; omega)
      refine ⟨_, rfl, _, rfl, t, A.map V.str, rfl, .inr (SqT.of ht4), rfl, flat_strs _, _, rfl, ?_⟩
      rw [if_neg Bool.false_ne_true, inV_str]
      by_cases hxA : x ∈ A
      · rw [decide_eq_true hxA]
        have hsel : (decide (x ∈ A) || (fre r1 [x] && fre r2 [x])) = true := by rw [decide_eq_true hxA]; rfl
        obtain ⟨H5, kq, e5⟩ : ∃ H5, Kp R H4 H5 ∧ H5 = H4 := ⟨H4, Kp.refl k4.w, rfl⟩
        refine iteT (iteT ?_)
        rw [← e5]
        have ht5 := kq.at ht4
        have hl5 := kq.at hl4
        have kh := k4.trans kq
        refine ⟨_, rfl, _, rfl, by show 1 ≤ sizeLine; decide, fun u nu => ?_⟩
        have k5 := kh.new nu (o := .lst [V.str x])
        have ku := Kp.upd kq.w nu (o := .lst [V.str x])
        refine ⟨R, p1, u, nm, r1, x, rfl, k5.w, hF.mono k5, upd_same, hxn, fun R6 H6 f1 x6 k6 w6 hf1 => ?_⟩
        have k56 := k5.trans k6
        refine ⟨_, rfl, _, rfl, by show 1 ≤ sizeLine; decide, fun u2 nu2 => ?_⟩
        have ku2 := Kp.upd w6 nu2 (o := .lst [V.str x])
        have k7 := k56.new nu2 (o := .lst [V.str x])
        refine ⟨R6, p2, u2, nm, r2, x, rfl, ku2.w, (hG.mono k7).ext x6, upd_same, hxn, fun R8 H8 f2 x8 k8 w8 hf2 => ?_⟩
        have k78 : Kp R H H8 := k7.trans (Kp.weak x6 k7.w k8)
        refine ⟨R8, f1, f2, les nm [x], drwRk r1 [x], drwRk r2 [x], rfl, w8, ((hf1.mono ku2).mono k8).ext x8, hf2, fun H9 t9 B k9 ht9 hB b1 b2 bn => ?_⟩
        have kw := Kp.weak (fun a y h => x8 a y (x6 a y h)) k78.w k9
        have k79 := k78.trans kw
        have kt : Kp R H5 H9 := ((ku.trans k6).trans (Kp.upd k6.w nu2)).trans ((Kp.weak x6 k7.w k8).trans kw)
        have mB := mx_eq (drw_rk hF.s.rk [x]) (drw_rk hG.s.rk [x]) hB b1 b2 bn
        refine ⟨_, rfl, t9, _, rfl, .inr (SqT.of ht9), _, _, rfl, rfl, _, rfl, t, _, rfl, .inr (SqT.of (kt.at ht5)), rfl, _, rfl, ?_⟩
        rw [List.length_map, List.length_map]
        refine ite2 (fun hc => ?_) (fun hc => ?_)
        · have hlt : B.length + 1 = A.length := by
            have := V.int.inj (of_decide_eq_true hc); omega
          refine ⟨_, rfl, .inl ⟨rfl, _, SqL.of (kt.at hl5)⟩, _, rfl, l, _, _, rfl, rfl, kt.at hl5, by rw [List.length_map]; exact Nat.lt_of_le_of_lt lt (by decide), ?_⟩
          refine ⟨_, _, rfl, k79.mut nlH, ?_, ?_⟩
          · rw [upd_ne fun z => by rw [z] at ht5; rw [ht5] at hl5; cases hl5]
            exact kt.at ht5
          · rw [upd_same, take_succ_at hx, List.filter_append, List.map_append]
            have : [x].filter (fun x => (decide (x ∈ A) || (fre r1 [x] && fre r2 [x])) && decide (mx (drwRk r1 [x]) (drwRk r2 [x]) (les nm [x]) + 1 = A.length)) = [x] := by
              rw [List.filter_cons, hsel, decide_eq_true (by omega), Bool.true_and, if_pos rfl]; rfl
            rw [this]; rfl
        · have hlt : ¬ B.length + 1 = A.length := fun z => hc (decide_eq_true (congrArg V.int (by omega)))
          refine ⟨_, _, rfl, k79, kt.at ht5, ?_⟩
          rw [take_succ_at hx, List.filter_append]
          have : [x].filter (fun x => (decide (x ∈ A) || (fre r1 [x] && fre r2 [x])) && decide (mx (drwRk r1 [x]) (drwRk r2 [x]) (les nm [x]) + 1 = A.length)) = [] := by
            rw [List.filter_cons, hsel, decide_eq_false (by omega), Bool.true_and, if_neg Bool.false_ne_true]; rfl
          rw [this, List.append_nil]
          exact kt.at hl5
      · rw [decide_eq_false hxA]
        refine iteF ?_
        refine ⟨_, rfl, _, rfl, by show 1 ≤ sizeLine; decide, fun v1 nv1 => ?_⟩
        have kv1 := Kp.upd k4.w nv1 (o := .tup [V.str x])
        refine ⟨R, p1, v1, nm, [x], r1, rfl, kv1.w, hF.s.mono (k4.trans kv1), upd_same, lx, fun Ha ka => ⟨_, rfl, ?_⟩⟩
        have ka' := kv1.trans ka
        have none1 : ∀ b : Bool, b = false → (decide (x ∈ A) || b) = false := fun b hb => by rw [hb, decide_eq_false hxA]; rfl
        have skip : ∀ Hz, Kp R H4 Hz → (fre r1 [x] && fre r2 [x]) = false → Kp R H Hz ∧ Hz t = some (.tup (A.map V.str)) ∧ Hz l = some (.lst (((nm.take (i + 1)).filter fun x => (decide (x ∈ A) || (fre r1 [x] && fre r2 [x])) && decide (mx (drwRk r1 [x]) (drwRk r2 [x]) (les nm [x]) + 1 = A.length)).map V.str)) := fun Hz kz hb => by
          refine ⟨k4.trans kz, kz.at ht4, ?_⟩
          rw [take_succ_at hx, List.filter_append]
          have : [x].filter (fun x => (decide (x ∈ A) || (fre r1 [x] && fre r2 [x])) && decide (mx (drwRk r1 [x]) (drwRk r2 [x]) (les nm [x]) + 1 = A.length)) = [] := by
            rw [List.filter_cons, none1 _ hb, Bool.false_and, if_neg Bool.false_ne_true]; rfl
          rw [this, List.append_nil]
          exact kz.at hl4
        cases f1 : fre r1 [x] with
        | false =>
          refine iteF (iteF ?_)
          exact ⟨_, _, rfl, skip Ha ka' (by rw [f1]; rfl)⟩
        | true =>
        refine iteT ?_
        refine ⟨_, rfl, _, rfl, by show 1 ≤ sizeLine; decide, fun v2 nv2 => ?_⟩
        have kv2 := ka'.trans (Kp.upd ka.w nv2 (o := .tup [V.str x]))
        refine ⟨R, p2, v2, nm, [x], r2, rfl, kv2.w, hG.s.mono (k4.trans kv2), upd_same, lx, fun H5 kb => ⟨_, rfl, ?_⟩⟩
        have kq := kv2.trans kb
        cases f2 : fre r2 [x] with
        | false =>
          refine iteF ?_
          exact ⟨_, _, rfl, skip H5 kq (by rw [f1, f2]; rfl)⟩
        | true =>
        have hsel : (decide (x ∈ A) || (fre r1 [x] && fre r2 [x])) = true := by rw [f1, f2]; simp
        refine iteT ?_
        have ht5 := kq.at ht4
        have hl5 := kq.at hl4
        have kh := k4.trans kq
        refine ⟨_, rfl, _, rfl, by show 1 ≤ sizeLine; decide, fun u nu => ?_⟩
        have k5 := kh.new nu (o := .lst [V.str x])
        have ku := Kp.upd kq.w nu (o := .lst [V.str x])
        refine ⟨R, p1, u, nm, r1, x, rfl, k5.w, hF.mono k5, upd_same, hxn, fun R6 H6 f1 x6 k6 w6 hf1 => ?_⟩
        have k56 := k5.trans k6
        refine ⟨_, rfl, _, rfl, by show 1 ≤ sizeLine; decide, fun u2 nu2 => ?_⟩
        have ku2 := Kp.upd w6 nu2 (o := .lst [V.str x])
        have k7 := k56.new nu2 (o := .lst [V.str x])
        refine ⟨R6, p2, u2, nm, r2, x, rfl, ku2.w, (hG.mono k7).ext x6, upd_same, hxn, fun R8 H8 f2 x8 k8 w8 hf2 => ?_⟩
        have k78 : Kp R H H8 := k7.trans (Kp.weak x6 k7.w k8)
        refine ⟨R8, f1, f2, les nm [x], drwRk r1 [x], drwRk r2 [x], rfl, w8, ((hf1.mono ku2).mono k8).ext x8, hf2, fun H9 t9 B k9 ht9 hB b1 b2 bn => ?_⟩
        have kw := Kp.weak (fun a y h => x8 a y (x6 a y h)) k78.w k9
        have k79 := k78.trans kw
        have kt : Kp R H5 H9 := ((ku.trans k6).trans (Kp.upd k6.w nu2)).trans ((Kp.weak x6 k7.w k8).trans kw)
        have mB := mx_eq (drw_rk hF.s.rk [x]) (drw_rk hG.s.rk [x]) hB b1 b2 bn
        refine ⟨_, rfl, t9, _, rfl, .inr (SqT.of ht9), _, _, rfl, rfl, _, rfl, t, _, rfl, .inr (SqT.of (kt.at ht5)), rfl, _, rfl, ?_⟩
        rw [List.length_map, List.length_map]
        refine ite2 (fun hc => ?_) (fun hc => ?_)
        · have hlt : B.length + 1 = A.length := by
            have := V.int.inj (of_decide_eq_true hc); omega
          refine ⟨_, rfl, .inl ⟨rfl, _, SqL.of (kt.at hl5)⟩, _, rfl, l, _, _, rfl, rfl, kt.at hl5, by rw [List.length_map]; exact Nat.lt_of_le_of_lt lt (by decide), ?_⟩
          refine ⟨_, _, rfl, k79.mut nlH, ?_, ?_⟩
          · rw [upd_ne fun z => by rw [z] at ht5; rw [ht5] at hl5; cases hl5]
            exact kt.at ht5
          · rw [upd_same, take_succ_at hx, List.filter_append, List.map_append]
            have : [x].filter (fun x => (decide (x ∈ A) || (fre r1 [x] && fre r2 [x])) && decide (mx (drwRk r1 [x]) (drwRk r2 [x]) (les nm [x]) + 1 = A.length)) = [x] := by
              rw [List.filter_cons, hsel, decide_eq_true (by omega), Bool.true_and, if_pos rfl]; rfl
            rw [this]; rfl
        · have hlt : ¬ B.length + 1 = A.length := fun z => hc (decide_eq_true (congrArg V.int (by omega)))
          refine ⟨_, _, rfl, k79, kt.at ht5, ?_⟩
          rw [take_succ_at hx, List.filter_append]
          have : [x].filter (fun x => (decide (x ∈ A) || (fre r1 [x] && fre r2 [x])) && decide (mx (drwRk r1 [x]) (drwRk r2 [x]) (les nm [x]) + 1 = A.length)) = [] := by
            rw [List.filter_cons, hsel, decide_eq_false (by omega), Bool.true_and, if_neg Bool.false_ne_true]; rfl
          rw [this, List.append_nil]
          exact kt.at hl5
    · rintro σ H4 ⟨v4, v5, rfl, k4, ht4, hl4⟩
      rw [List.take_length] at hl4
      exact ⟨_, rfl, q H4 l A k4 nlH hA i1 i2 (mx_eq hF.s.rk hG.s.rk hA i1 i2 hn).symm hl4⟩
end
end Bw
set_option Elab.async false
set_option linter.all false
set_option maxRecDepth 100000
set_option maxHeartbeats 4000000
/-! more rules of our own -/
namespace Bw
open PySem PySem.Spec PyProof.Rows L2 Bt
/-- sorted(t), t a tuple of texts -/
def rSortedTu (K : PySem.W.Frag) : List V → Hp → VK → Prop := fun vs H Q => ∃ (a : Addr) (xs : List Str), vs = [V.ref a] ∧ SqT K H a (xs.map V.str) ∧ xs.length < 64 ∧ ∀ (zs : List Str) (l : Addr), zs.Perm xs → sortedS zs = true → H l = none → Q (.ref l) (upd H l (.lst (zs.map V.str)))
section
variable {X : Cx}
theorem cr_sortedTu : CallR X (.builtin "sorted") (rSortedTu X.K) := by
  rintro pins s σ H vs us Q I r ⟨a, xs, rfl, hs, few, q⟩
  obtain ⟨its, rv, ⟨o, at_, cl, n, dat⟩, _⟩ := I.tuple hs
  have len : its.length = xs.length := by rw [← rv.length, List.length_map]
  have txt : StrsAre its xs := rv.strs
  have few' : its.length < 64 := len ▸ few
  have fits : ∀ {m : Nat}, m = xs.length → m ≤ sizeLine := fun e => e ▸ small64 few
  rw [Vals.ref1 r]
  -- the items are collected into a new list
  refine Calls.call_function_entry PyProof.Rows.kind_sorted PyProof.Rows.plain_sorted PyProof.Rows.entry_sorted (PyProof.Rows.args_sorted1 (Value.ref a)) (wpAny_bind (m := checkCount "sorted" 1 1 _) (wpAny_pure (wpAny_bind (wpAny_collect_seq (A := X.A.in1) a (.inr rfl) at_ cl dat (fun g keep => ?_) (fits (by rw [List.size_toArray, len]))))))
  have Ig : Inv X pins σ H { s with heap := g } := I.kept (t' := s.toks) keep
  rw [List.toList_toArray]
  refine wpAny_bind (wpAny_newList ?_ (fits len))
  have new : (g.push (seqObj "list" its.toArray 0)).get? g.objs.size = some (seqObj "list" its.toArray 0) := Heap.get?_push_size _ rfl
  show wpAny _ _ _ _ _ { s with heap := g.push (seqObj "list" its.toArray 0) }
  -- and sorted there
  refine wpAny_bind (wpAny_holding (wpAny_call_entry PyProof.Rows.slot_list_sort ⟨_, new, rfl⟩ PyProof.Rows.entry_list_sort (list_sort_treeK strKind_oneLt (s := { s with heap := g.push (seqObj "list" its.toArray 0) }) new txt.keysOf
    (fun v w rest e => keyKind_strs (e ▸ txt)) few' fun st perm up => ⟨_, rfl, ?_⟩) (PyProof.Rows.args_list_sort (.ref g.objs.size))))
  obtain ⟨zs, z1, z2, z3⟩ := sorted_out_str txt perm up
  obtain ⟨k, out⟩ := PyProof.Rows.sortedHeap_at (vs := its) (out := (arrOf st).map (·.2)) new
  have ok : ObjOk X.prog X.w (upd H g.objs.size (.lst (zs.map V.str))) (PyProof.Rows.sortedHeap (g.push (seqObj "list" its.toArray 0)) g.objs.size its ((arrOf st).map (·.2))) g.objs.size (.lst (zs.map V.str)) :=
    ⟨fits (by rw [List.length_map, z2.length_eq]), ((arrOf st).map (·.2)).toList, k, vals_of_strs z1, by rw [Array.toArray_toList]; exact out⟩
  refine wpAny_pure ⟨_, rfl, .ref g.objs.size, _, Ig.laid (t' := s.toks) (fun b u e => ?_) (Nat.le_refl _) ok, rfl, q zs _ z2 z3 (Ig.hok.fresh (Nat.le_refl _))⟩
  have lt := Heap.lt_size e
  have lt' : b < (g.push (seqObj "list" its.toArray 0)).objs.size := by rw [size_push']; exact Nat.lt_succ_of_lt lt
  rw [PyProof.Rows.sortedHeap_old (Nat.ne_of_lt lt) lt']
  exact Heap.get?_push_of_some _ e
end
end Bw
set_option Elab.async false
set_option linter.all false
set_option maxRecDepth 100000
set_option maxHeartbeats 4000000
/-! webs and tables of rooms are made -/
namespace Bw
open PySem PySem.Spec PyProof.Rows L2 Bt Bs Bm
section
variable {P : Program} {w : World} {K : PySem.W.Frag} {mg : Str → Option Value} {base : Heap}
theorem cutV_take (xs : List V) (i : Nat) (h : i ≤ xs.length) : cutV xs none (some (i : Int)) = xs.take i := by
  unfold cutV
  rw [HT.sIx_none, HT.sIx_nat, List.drop_zero, Nat.min_eq_left h, Nat.sub_zero]
theorem take_not {l : List Str} {i : Nat} {x : Str} (nd : l.Nodup) (h : l[i]? = some x) : x ∉ l.take i := fun hq => by
  rw [← List.take_append_drop i l, List.nodup_append] at nd
  exact nd.2.2 _ hq _ (List.mem_of_getElem? (i := 0) (by rw [List.getElem?_drop]; exact h)) rfl

/-! ### places, ties -/
def spNeedPlaces : Sp := fun vs H Q _ => ∃ (R : Reg) (a : Addr) (pl : List Str), vs = [.ref a] ∧ WInv R H ∧ H a = some (.lst (pl.map V.str)) ∧ SS pl ∧ 1 ≤ pl.length ∧ pl.length ≤ 16 ∧ (∀ x, x ∈ pl → IsName x) ∧
  ∀ H' t, Kp R H H' → H t = none → H' t = some (.tup (pl.map V.str)) → Q (.ref t) H'
abbrev N_need_places : List Str := ["places", "index", "name"]
theorem sc_need_places : FnScope N_need_places ["places"] (defScope s_need_places) := ⟨rfl, rfl, rfl, by decide +kernel, rfl, by decide +kernel, by decide +kernel⟩
theorem c_need_places (T : Txt K mg) : Call P w K mg base 2 "need_places" ["places"] spNeedPlaces := by
  obtain ⟨t16, hm_MOST_PLACES⟩ := T.i_MOST_PLACES
  refine mkCall T.d_need_places sc_need_places (fun _ _ _ _ _ _ us hl => match us, hl with | [_], _ => rfl) (fun vs H Q E h => ?_) (fun cdv A outer s H vs Q E hr h => ?_)
  · obtain ⟨R, a, pl, rfl, _⟩ := h; rfl
  · obtain ⟨R, a, pl, rfl, wi, ha, ss, l1, l16, hn, q⟩ := h
    refine ⟨_, (pss_cons (ps_if (pt_not (pt_chain op_le op_le pe_int (pe_callB call_len_seq (by rfl) T.f_len bt_len (pa_cons (pv 0) pa_nil)) (pe_glob (v := .int 16) (by rfl) hm_MOST_PLACES ⟨_, rfl⟩))) (pss_one (ps_never)) pss_nil)
      (pss_cons (ps_for PassesOwn.never rfl (pi_enum (by rfl) T.f_enumerate (pa_cons (pv 0) pa_nil)) (pg_tup (by rfl) (pgs_cons (pg_name (i := 1) sc_need_places.nd rfl (by first | exact Or.inl rfl | exact Or.inr rfl)) (pgs_cons (pg_name (i := 2) sc_need_places.nd rfl (by first | exact Or.inl rfl | exact Or.inr rfl)) pgs_nil))) (pss_one (ps_if (PW.pt (pw_or (pt_not (pt_val (pe_f (c_is_name T) hr (pa_cons (pv 2) pa_nil)))) (pw_or1 (pt_cmpR op_in_seq (pv 2) (pe_slice sl_list (pv 0) po_none (po_some (pv 1))) (by rfl))))) (pss_one (ps_never)) pss_nil)))
      (pss_one (ps_ret (pe_callTy call_tuple_of (by rfl) T.f_tuple bt_tuple (pa_cons (pe_callB cr_sortedS (by rfl) T.f_sorted bt_sorted (pa_cons (pv 0) pa_nil)) pa_nil)))))), ?_⟩
    refine ⟨_, rfl, a, _, rfl, .inl (SqL.of ha), _, _, rfl, rfl, true, dT (by rw [List.length_map]; omega), iteT ⟨_, _, rfl, rfl, true, dT (by rw [List.length_map]; omega), iteF ?_⟩⟩
    refine ⟨_, rfl, a, pl.map V.str, rfl, SqL.of ha, ?_⟩
    refine forE (G := fun H1 => H1 a = some (.lst (pl.map V.str))) (c := V.str) (its := pl) (fun H1 g => SqL.of g)
      (fun i σ H1 => ∃ v3 v4, σ = [some (.ref a), v3, v4] ∧ Kp R H H1)
      (fun i σ H1 ⟨_, _, _, k⟩ => k.at ha) ⟨none, none, rfl, Kp.refl wi⟩ ?_ ?_
    · rintro i x σ H1 t hx ⟨v3, v4, rfl, k⟩ ht
      have hi : i < pl.length := (List.getElem?_eq_some_iff.mp hx).1
      have k2 := k.new ht (o := .tup [.int (i : Nat), .str x])
      refine ⟨t, _, rfl, SqT.of upd_same, rfl, _, _, rfl, _, _, rfl, rfl, ?_⟩
      refine ⟨_, rfl, R, x, rfl, k2.w, hn x (List.mem_of_getElem? hx), fun H2 k3 => ⟨true, rfl, iteF ?_⟩⟩
      have k4 := k2.trans k3
      refine ⟨_, rfl, _, rfl, _, rfl, _, rfl, a, _, rfl, SqL.of (k4.at ha), fun c nc => ?_⟩
      rw [cutV_take _ i (by rw [List.length_map]; omega), ← List.map_take]
      refine ⟨c, (pl.take i).map V.str, rfl, .inl (SqL.of upd_same), rfl, flat_strs _, _, rfl, ?_⟩
      rw [if_neg Bool.false_ne_true, inV_str, decide_eq_false (take_not ss.nodup hx)]
      exact iteF ⟨_, _, rfl, k4.new nc⟩
    · rintro σ H1 ⟨v3, v4, rfl, k⟩
      refine ⟨_, rfl, a, pl, rfl, SqL.of (k.at ha), by omega, fun ys p hp hs np => ?_⟩
      rw [sorted_is hp hs, srt_of_ss ss]
      have k2 := k.new np (o := .lst (pl.map V.str))
      exact ⟨p, _, rfl, .inl ⟨SqL.of upd_same, fun t nt => q _ t (k2.new nt) (k2.fr nt) upd_same⟩⟩
def spIsPair : Sp := fun vs H Q _ => ∃ (R : Reg) (a b : Addr) (pl : List Str) (x y : Str), vs = [.ref a, .ref b] ∧ WInv R H ∧ H a = some (.tup (pl.map V.str)) ∧ H b = some (.tup [.str x, .str y]) ∧ x ∈ pl ∧ y ∈ pl ∧ ∀ H', Kp R H H' → Q (.bl true) H'
abbrev N_is_pair : List Str := ["known", "thing", "place"]
theorem sc_is_pair : FnScope N_is_pair ["known", "thing"] (defScope s_is_pair) := ⟨rfl, rfl, rfl, by decide +kernel, rfl, by decide +kernel, by decide +kernel⟩
theorem c_is_pair (T : Txt K mg) : Call P w K mg base 1 "is_pair" ["known", "thing"] spIsPair := by
  refine mkCall T.d_is_pair sc_is_pair (fun _ _ _ _ _ _ us hl => match us, hl with | [_, _], _ => rfl) (fun vs H Q E h => ?_) (fun cdv A outer s H vs Q E hr h => ?_)
  · obtain ⟨R, a, b, pl, x, y, rfl, _⟩ := h; rfl
  · obtain ⟨R, a, b, pl, x, y, rfl, wi, ha, hb, hx, hy, q⟩ := h
    refine ⟨_, (pss_cons (ps_if (PW.pt (pw_or (pt_not (pt_val (pe_callB call_isi (by rfl) T.f_isinstance bt_isinstance (pa_cons (pv 1) (pa_cons (pe_bltn (v := .ty "tuple") (by rfl) T.f_tuple bt_tuple rfl) pa_nil))))) (pw_or1 (pt_cmpR op_ne (pe_callB call_len_seq (by rfl) T.f_len bt_len (pa_cons (pv 1) pa_nil)) pe_int (nomark _))))) (pss_one (ps_ret pe_bl)) pss_nil)
      (pss_one (ps_ret (pe_callB (cr_all rfl) (by rfl) T.f_all bt_all (pa_cons (pe_lc (own := [("place", 2)]) (by rfl) sc_is_pair.nd (pi_tup (pv 1)) (blkOk_by (own := [("place", 2)]) (N := N_is_pair) (sc := defScope s_is_pair) (by decide +kernel)) (fun _ _ _ _ _ => (pg_name (i := 2) sc_is_pair.nd rfl (by first | exact Or.inl rfl | exact Or.inr rfl))) (fun _ _ _ _ _ => pts_nil) (fun _ _ _ _ _ => (pe_and (pe_callB (show CallR _ _ (rIsi K) from call_isi) (by rfl) T.f_isinstance bt_isinstance (pa_cons (pv 2) (pa_cons (pe_bltn (v := .ty "str") (by rfl) T.f_str bt_str rfl) pa_nil))) (pe_one (pe_cmpR (show OpR _ _ (rIn K false) from op_in_seq) (pv 2) (pv 0) (by rfl)))))) pa_nil))))), ?_⟩
    refine ⟨_, rfl, _, _, _, _, _, rfl, .ty _, .base (.tup hb), k_tt, true, rfl, iteF ?_⟩
    refine ⟨_, rfl, b, _, rfl, .inr (SqT.of hb), rfl, _, rfl, iteF ?_⟩
    refine ⟨_, rfl, b, rfl, ⟨_, SqT.of hb⟩, fun D hD => ?_⟩
    refine lcA hD (src_tup (c := V.str) (its := [x, y]) hb) wi (show (2 : Nat) ≤ 100000 by decide) (fun _ => .bl true) (fun _ => rfl) (fun z hz H1 k Q' q' => ?_) fun H1 k e => ?_
    · have hzp : z ∈ pl := by
        rcases List.mem_cons.mp hz with e | e
        · exact e ▸ hx
        · rw [List.mem_singleton.mp e]; exact hy
      refine ⟨_, rfl, _, _, _, _, _, rfl, .ty _, .base (.str z), k_ss, true, rfl, iteT ⟨_, rfl, _, rfl, a, pl.map V.str, rfl, .inr (SqT.of (k.at ha)), rfl, flat_strs _, ?_⟩⟩
      rw [if_neg Bool.false_ne_true, inV_str, decide_eq_true hzp]
      exact q' H1 (Kp.refl k.w)
    · exact ⟨D, [true, true], rfl, SqL.of (by rw [e]; rfl), q H1 k⟩
/-- pairs of texts by name -/
structure ArcS (H : Hp) (d : Addr) (nm : List Str) (en : Str → Str × Str) : Prop where
  ob : ∃ kvs, H d = some (.dK kvs) ∧ kvs.map (·.1) = nm.map (Sum.inr : Str → Key) ∧ ∀ t, t ∈ nm → ∃ e, valV kvs (Sum.inr t) = some (.ref e) ∧ H e = some (.tup [.str (en t).1, .str (en t).2])
theorem ArcS.mono {R : Reg} {H H' : Hp} {d : Addr} {nm : List Str} {en : Str → Str × Str} (k : Kp R H H') (h : ArcS H d nm en) : ArcS H' d nm en := by
  obtain ⟨kvs, h1, h2, h3⟩ := h.ob
  exact ⟨kvs, k.at h1, h2, fun t ht => let ⟨e, a, b⟩ := h3 t ht; ⟨e, a, k.at b⟩⟩
/-- ends told sorted -/
def enS (en : Str → Str × Str) (t : Str) : Str × Str := if slt (en t).2 (en t).1 then ((en t).2, (en t).1) else en t
theorem srt_two (a b : Str) : srt [a, b] = if slt b a then [b, a] else [a, b] := rfl
theorem enS_srt (en : Str → Str × Str) (t : Str) : srt [(en t).1, (en t).2] = [(enS en t).1, (enS en t).2] := by
  rw [srt_two]
  unfold enS
  by_cases h : slt (en t).2 (en t).1
  · rw [if_pos h, if_pos h]
  · rw [if_neg h, if_neg h]
/-- a web with its names in order -/
structure WebK (K : PySem.W.Frag) (H : Hp) (q : Addr) (pl : List Str) (en : Str → Str × Str) (nm : List Str) : Prop where
  s : WebS K H q pl en nm
  ky : ∃ dx kn d kvs, H q = some (.ins (He.ga K "Web") dx [("known", .ref kn), ("ending", .ref d)]) ∧ H d = some (.dK kvs) ∧ kvs.map (·.1) = nm.map (Sum.inr : Str → Key)
def spWebInit (K : PySem.W.Frag) : Sp := fun vs H Q _ => ∃ (R : Reg) (H0 : Hp) (p a d dx : Addr) (pl nm : List Str) (en : Str → Str × Str), vs = [.ref p, .ref a, .ref d] ∧ Kp R H0 H ∧ H0 p = none ∧ H p = some (.ins (He.ga K "Web") dx []) ∧
  H a = some (.lst (pl.map V.str)) ∧ SS pl ∧ 1 ≤ pl.length ∧ pl.length ≤ 16 ∧ (∀ x, x ∈ pl → IsName x) ∧ ArcS H d nm en ∧ SS nm ∧ nm.length ≤ 24 ∧ (∀ x, x ∈ nm → IsName x) ∧ (∀ t, t ∈ nm → (en t).1 ∈ pl ∧ (en t).2 ∈ pl) ∧
  ∀ H', Kp R H0 H' → WebK K H' p pl (enS en) nm → Q .non H'
theorem keys_strs {kvs : List (Key × V)} {nm : List Str} (h : kvs.map (·.1) = nm.map Sum.inr) : (kvs.map fun kv => kV kv.1) = nm.map V.str := by
  have : (kvs.map fun kv => kV kv.1) = (kvs.map (·.1)).map kV := by rw [List.map_map]; rfl
  rw [this, h, kV_strs]
abbrev N_Web_init : List Str := ["self", "places", "ties", "name"]
theorem sc_Web_init : FnScope N_Web_init ["self", "places", "ties"] (defScope s_Web_init) := ⟨rfl, rfl, rfl, by decide +kernel, rfl, by decide +kernel, by decide +kernel⟩
theorem c_Web_init (T : Txt K mg) : CallM P w K mg base 3 "Web" "__init__" ["self", "places", "ties"] (spWebInit K) := by
  obtain ⟨t24, hm_MOST_THINGS⟩ := T.i_MOST_THINGS
  refine mkMeth T.m_Web_init sc_Web_init (fun _ _ _ _ _ _ us hl => match us, hl with | [_, _, _], _ => rfl) (fun vs H Q E h => ?_) (fun cdv A outer s H vs Q E hr h => ?_)
  · obtain ⟨R, H0, p, a, d, dx, pl, nm, en, rfl, _⟩ := h; rfl
  · obtain ⟨R, H0, p, a, d, dx, pl, nm, en, rfl, k0, h0, h1, ha, ss, l1, l16, hpn, hArc, sn, l24, hnn, hen, q⟩ := h
    have hu := hu_of hr
    obtain ⟨kvs, hd, hks, hv⟩ := hArc.ob
    have kl : kvs.length = nm.length := by have := congrArg List.length hks; rw [List.length_map, List.length_map] at this; exact this
    have npd : d ≠ p := fun e => by rw [e, h1] at hd; cases hd
    refine ⟨_, (pss_cons (ps_fld (pv 0) (pe_f (c_need_places T) hr (pa_cons (pv 1) pa_nil)) rfl)
      (pss_cons (ps_for PassesOwn.never rfl (pi_list (pe_callB cr_sortedS (by rfl) T.f_sorted bt_sorted (pa_cons (pe_callTy (call_listD rfl) (by rfl) T.f_list bt_list (pa_cons (pv 2) pa_nil)) pa_nil))) (pg_name (i := 3) sc_Web_init.nd rfl (by first | exact Or.inl rfl | exact Or.inr rfl)) (pss_one (ps_if (PW.pt (pw_or (pt_not (pt_val (pe_f (c_is_name T) hr (pa_cons (pv 3) pa_nil)))) (pw_or1 (pt_not (pt_val (pe_f (c_is_pair T) hr (pa_cons (pe_fld (pv 0) rfl) (pa_cons (pe_dget hu (pv 2) (pv 3) (fun _ _ => rfl)) pa_nil)))))))) (pss_one (ps_never)) pss_nil)))
      (pss_cons (ps_if (pt_cmpR op_gt (pe_callB call_lenD (by rfl) T.f_len bt_len (pa_cons (pv 2) pa_nil)) (pe_glob (v := .int 24) (by rfl) hm_MOST_THINGS ⟨_, rfl⟩) (nomark _)) (pss_one (ps_never)) pss_nil)
      (pss_one (ps_fld (pv 0) (pe_dc (own := [("name", 3)]) (by rfl) sc_Web_init.nd (pi_list (pe_callB (show CallR _ _ (rSortedS K) from cr_sortedS) (by rfl) T.f_sorted bt_sorted (pa_cons (pe_callTy (call_listD rfl) (by rfl) T.f_list bt_list (pa_cons (pv 2) pa_nil)) pa_nil))) (blkOk_by (own := [("name", 3)]) (N := N_Web_init) (sc := defScope s_Web_init) (by decide +kernel)) (fun _ _ _ _ _ => (pg_name (i := 3) sc_Web_init.nd rfl (by first | exact Or.inl rfl | exact Or.inr rfl))) (fun _ _ _ _ _ => pts_nil) (fun _ _ _ _ _ => (pv 3)) (fun _ _ _ _ _ => (pe_callTy (show CallR _ _ (fun xs H Q => ∃ p ys, xs = [.ref p] ∧ ((SqL K H p ys ∧ ∀ l, H l = none → Q (.ref l) (upd H l (.tup ys))) ∨ (SqT K H p ys ∧ Q (.ref p) H))) from call_tuple_of) (by rfl) T.f_tuple bt_tuple (pa_cons (pe_callB (show CallR _ _ (rSortedTu K) from cr_sortedTu) (by rfl) T.f_sorted bt_sorted (pa_cons (pe_dget hu (pv 2) (pv 3) (fun _ _ => rfl)) pa_nil)) pa_nil)))) rfl))))), ?_⟩
    -- self.known = need_places(places)
    refine ⟨_, rfl, R, a, pl, rfl, k0.w, ha, ss, l1, l16, hpn, fun H1 t k1 nt ht => ?_⟩
    have ntp : t ≠ p := (ne_of_none h1 nt).symm
    refine ⟨_, rfl, p, _, dx, _, rfl, k1.at h1, T.c_Web, T.n_Web_known, by show (0 : Nat) < 1000; decide, ?_⟩
    have k2 : Kp R H0 (upd H1 p (.ins (He.ga K "Web") dx [("known", .ref t)])) := (k0.trans k1).mut h0
    have ht2 : (upd H1 p (.ins (He.ga K "Web") dx [("known", .ref t)])) t = some (.tup (pl.map V.str)) := by rw [upd_ne ntp]; exact ht
    have hd2 : (upd H1 p (.ins (He.ga K "Web") dx [("known", .ref t)])) d = some (.dK kvs) := by rw [upd_ne npd]; exact k1.at hd
    have hv2 : ∀ z, z ∈ nm → ∃ e, valV kvs (Sum.inr z) = some (.ref e) ∧ (upd H1 p (.ins (He.ga K "Web") dx [("known", .ref t)])) e = some (.tup [.str (en z).1, .str (en z).2]) := fun z hz => by
      obtain ⟨e, e1, e2⟩ := hv z hz
      exact ⟨e, e1, by rw [upd_ne (fun q => by rw [q, h1] at e2; cases e2)]; exact k1.at e2⟩
    generalize hH2 : (upd H1 p (.ins (He.ga K "Web") dx [("known", .ref t)])) = H2 at k2 ht2 hd2 hv2
    have hp2 : H2 p = some (.ins (He.ga K "Web") dx [("known", .ref t)]) := by rw [← hH2]; exact upd_same
    have hgoal : H2 = (upd H1 p (.ins (He.ga K "Web") dx (putF "known" (.ref t) []))) := by rw [← hH2]; rfl
    rw [← hgoal]
    clear hgoal hH2
    -- for name in sorted(list(ties))
    refine ⟨_, rfl, d, kvs, rfl, Rd.of hd2, fun l nl => ?_⟩
    rw [keys_strs hks]
    refine ⟨l, nm, rfl, SqL.of upd_same, by omega, fun ys g hg hs ng => ?_⟩
    rw [sorted_is hg hs, srt_of_ss sn]
    have kA : Kp R H2 (upd (upd H2 l (.lst (nm.map V.str))) g (.lst (nm.map V.str))) := (Kp.upd k2.w nl).new ng
    refine ⟨g, rfl, ⟨_, SqL.of upd_same⟩, ?_⟩
    refine forG (G := fun H3 => H3 g = some (.lst (nm.map V.str))) (src_lstG (c := V.str) (its := nm) fun _ g => g)
      (fun i σ H3 => ∃ v3, σ = [some (.ref p), some (.ref a), some (.ref d), v3] ∧ Kp R H2 H3 ∧ H3 g = some (.lst (nm.map V.str)))
      (fun i σ H3 ⟨_, _, _, g⟩ => g) ⟨none, rfl, kA, upd_same⟩ ?_ ?_
    · rintro i x σ H3 hx ⟨v3, rfl, k3, hg3⟩
      have hxn : x ∈ nm := List.mem_of_getElem? hx
      obtain ⟨e, e1, e2⟩ := hv2 x hxn
      obtain ⟨i1, i2⟩ := hen x hxn
      refine ⟨_, rfl, R, x, rfl, k3.w, hnn x hxn, fun H4 k4 => ⟨true, rfl, iteF ?_⟩⟩
      have k34 := k3.trans k4
      refine ⟨_, rfl, p, _, dx, _, _, rfl, k34.at hp2, T.c_Web, T.n_Web_known, rfl, _, rfl, _, rfl, d, _, rfl, (show DGet _ _ (kV (Sum.inr x)) _ from e1 ▸ DGet.k (k34.at hd2)), ?_⟩
      refine ⟨R, t, e, pl, _, _, rfl, k34.w, k34.at ht2, k34.at e2, i1, i2, fun H5 k5 => ⟨true, rfl, iteF ?_⟩⟩
      exact ⟨_, rfl, k34.trans k5, (k4.trans k5).at hg3⟩
    · rintro σ H3 ⟨v3, rfl, k3, hg3⟩
      refine ⟨_, rfl, d, kvs, rfl, k3.at hd2, _, _, rfl, rfl, false, dF (by rw [kl]; omega), iteF ?_⟩
      -- self.ending = {..}
      refine ⟨_, rfl, d, kvs, rfl, Rd.of (k3.at hd2), fun l' nl' => ?_⟩
      rw [keys_strs hks]
      refine ⟨l', nm, rfl, SqL.of upd_same, by omega, fun ys' g' hg' hs' ng' => ?_⟩
      rw [sorted_is hg' hs', srt_of_ss sn]
      have k4 := (Kp.upd k3.w nl' (o := .lst (nm.map V.str))).new ng' (o := .lst (nm.map V.str))
      have k24 := k3.trans k4
      refine ⟨g', rfl, ⟨_, SqL.of upd_same⟩, fun D hD => ?_⟩
      refine dcG hD (src_lst (c := V.str) (its := nm) upd_same) k4.w (by omega) (fun x v H => ∃ e, v = .ref e ∧ H e = some (.tup [.str (enS en x).1, .str (enS en x).2])) Sum.inr (fun x v Ha Hb kk ⟨e, a, b⟩ => ⟨e, a, kk.at b⟩)
        (fun x v Ha xs zs hx ⟨e, a, b⟩ => ⟨e, a, by rw [upd_ne fun q => by rw [q, hx] at b; cases b]; exact b⟩) (nodup_inr sn.nodup) (fun _ => rfl) (fun _ _ _ _ q => q)
        (fun x hx Ha Q' q' => ⟨_, rfl, q'⟩) (fun x hx Ha ka Q' q' => ?_) fun H5 kv5 k5 e5 pr => ?_
      · obtain ⟨e, e1, e2⟩ := hv2 x hx
        have ka' := k24.trans ka
        refine ⟨_, rfl, _, rfl, d, _, rfl, (show DGet _ _ (kV (Sum.inr x)) _ from e1 ▸ DGet.k (ka'.at hd2)), e, [(en x).1, (en x).2], rfl, SqT.of (ka'.at e2), by show (2 : Nat) < 64; decide, fun zs u hu hs nu => ?_⟩
        rw [sorted_is hu hs, enS_srt]
        have ku := Kp.upd ka.w nu (o := .lst ([(enS en x).1, (enS en x).2].map V.str))
        exact ⟨u, _, rfl, .inl ⟨SqL.of upd_same, fun z nz => q' _ _ (ku.new nz) ⟨z, rfl, upd_same⟩⟩⟩
      · have k25 := k24.trans k5
        refine ⟨_, rfl, p, _, dx, _, rfl, k25.at hp2, T.c_Web, T.n_Web_ending, by show (1 : Nat) < 1000; decide, ?_⟩
        have hv5 : kv5.map (·.1) = nm.map Sum.inr ∧ ∀ z, z ∈ nm → ∃ e, valV kv5 (Sum.inr z) = some (.ref e) ∧ H5 e = some (.tup [.str (enS en z).1, .str (enS en z).2]) := by
          have aux : ∀ {a : List Str} {b : List (Key × V)}, Paired (fun (i : Str) (kv : Key × V) => kv.1 = Sum.inr i ∧ ∃ e, kv.2 = .ref e ∧ H5 e = some (.tup [.str (enS en i).1, .str (enS en i).2])) a b →
              b.map (·.1) = a.map Sum.inr ∧ ∀ z, z ∈ a → ∃ e, valV b (Sum.inr z) = some (.ref e) ∧ H5 e = some (.tup [.str (enS en z).1, .str (enS en z).2]) := by
            intro a b pp
            induction pp with
            | nil => exact ⟨rfl, fun z hz => by cases hz⟩
            | cons r t ih =>
              rename_i y kv ys kvs'
              obtain ⟨r1, e, r2, r3⟩ := r
              refine ⟨by rw [List.map_cons, List.map_cons, r1, ih.1], fun z hz => ?_⟩
              by_cases hzy : z = y
              · subst hzy
                exact ⟨e, by rw [valV_pos (p := kv) r1, r2], r3⟩
              · rw [valV_neg (p := kv) (by rw [r1]; exact fun q => hzy (Sum.inr.inj q).symm)]
                rcases List.mem_cons.mp hz with q | q
                · exact absurd q hzy
                · exact ih.2 z q
          exact aux pr
        have fr5 : ∀ {b o}, H5 b = some o → b ≠ p → (upd H5 p (.ins (He.ga K "Web") dx (putF "ending" (.ref D) [("known", .ref t)]))) b = some o := fun {b o} h n => by rw [upd_ne n]; exact h
        have nDp : D ≠ p := fun e => by rw [e] at e5; rw [k25.at hp2] at e5; cases e5
        refine q _ ((k2.trans k25).mut h0) ⟨⟨⟨dx, t, D, kv5, upd_same, fr5 (k25.at ht2) ntp, fr5 e5 nDp, fun z hz => ?_⟩, ss.nodup, l16, fun z hz => ?_⟩, ⟨dx, t, D, kv5, upd_same, fr5 e5 nDp, hv5.1⟩⟩
        · obtain ⟨e, a, b⟩ := hv5.2 z hz
          exact ⟨e, a, fr5 b fun q => by rw [q, k25.at hp2] at b; cases b⟩
        · obtain ⟨i1, i2⟩ := hen z hz
          unfold enS
          split
          · exact ⟨i2, i1⟩
          · exact ⟨i1, i2⟩
def spFamOf (K : PySem.W.Frag) (S : Hp → Addr → List Str → (List Str → Nat) → Prop) : Sp := fun vs H Q _ => ∃ (R : Reg) (c : Addr) (nm : List Str) (r : List Str → Nat), vs = [.ref c] ∧ WInv R H ∧ S H c nm r ∧ SS nm ∧ nm.length ≤ 8 ∧ Bf.IsRk r ∧ (∀ x, x ∈ nm → PyData.strOk x = true) ∧
  ∀ R' H' p, Ext R R' → Kp R H H' → WInv R' H' → FamB K R' H' p nm r → Q (.ref p) H'
abbrev N_ties_family : List Str := ["web"]
theorem sc_ties_family : FnScope N_ties_family ["web"] (defScope s_ties_family) := ⟨rfl, rfl, rfl, by decide +kernel, rfl, by decide +kernel, by decide +kernel⟩
theorem c_ties_family (T : Txt K mg) : Call P w K mg base 3 "ties_family" ["web"] (spFamOf K fun H c nm r => ∃ pl en, WebK K H c pl en nm ∧ ∀ A, Lot nm A → webRk pl en A = r A) := by
  obtain ⟨ff, F_Family, b_Family⟩ := (c_Family_init (P := P) (w := w) (base := base) T).ex
  refine mkCall T.d_ties_family sc_ties_family (fun _ _ _ _ _ _ us hl => match us, hl with | [_], _ => rfl) (fun vs H Q E h => ?_) (fun cdv A outer s H vs Q E hr h => ?_)
  · obtain ⟨R, c, nm, r, rfl, _⟩ := h; rfl
  · obtain ⟨R, c, nm, r, rfl, wi, ⟨pl, en, hW, he⟩, ss, l8, rk, ok, q⟩ := h
    obtain ⟨dx, kn, d, kvs, h1, h2, h3⟩ := hW.ky
    refine ⟨_, (pss_one (ps_ret (pe_make T.k_Family F_Family (hr.mono (by decide)) (by rfl) T.g_Family b_Family .nil pass0 (pa_cons (pe_callB cr_sortedS (by rfl) T.f_sorted bt_sorted (pa_cons (pe_callTy (call_listD rfl) (by rfl) T.f_list bt_list (pa_cons (pe_fld (pv 0) rfl) pa_nil)) pa_nil)) (pa_cons (pv 0) pa_nil))))), ?_⟩
    refine ⟨_, rfl, c, _, dx, _, _, rfl, h1, T.c_Web, T.n_Web_ending, rfl, d, kvs, rfl, Rd.of h2, fun l nl => ?_⟩
    rw [keys_strs h3]
    refine ⟨l, nm, rfl, SqL.of upd_same, by omega, fun ys g hg hs ng => ?_⟩
    rw [sorted_is hg hs, srt_of_ss ss]
    have k1 := (Kp.upd wi nl (o := .lst (nm.map V.str))).new ng (o := .lst (nm.map V.str))
    refine ⟨_, rfl, ?_⟩
    refine make_fam (Q := Q) (K := K) (r := r) k1.w (.inl upd_same) ss l8 rk ok fun H5 z R' ext k5 w5 nz hO5 => ?_
    have kk := k1.trans k5
    exact q R' H5 z ext kk w5 ⟨c, hO5, .web (hW.s.mono kk) he⟩
end
end Bw
set_option Elab.async false
set_option linter.all false
set_option maxRecDepth 100000
set_option maxHeartbeats 4000000
/-! tables of rooms are made; weights -/
namespace Bw
open PySem PySem.Spec PyProof.Rows L2 Bt Bs Bm
section
variable {P : Program} {w : World} {K : PySem.W.Frag} {mg : Str → Option Value} {base : Heap}
/-- a room as the caller gives it -/
def roomL (H : Hp) (v : V) (q : List Str × Int) : Prop := ∃ t a, v = .ref t ∧ H t = some (.tup [.ref a, .int q.2]) ∧ H a = some (.lst (q.1.map V.str))
theorem roomL.mono {R : Reg} {H H' : Hp} (k : Kp R H H') {v : V} {x : List Str × Int} (h : roomL H v x) : roomL H' v x := by
  obtain ⟨t, a, e, h1, h2⟩ := h
  exact ⟨t, a, e, k.at h1, k.at h2⟩
/-- what a room must be -/
structure RoomOk (kn : List Str) (q : List Str × Int) : Prop where
  ss : SS q.1
  sub : ∀ x, x ∈ q.1 → x ∈ kn
  pos : 0 ≤ q.2
def spIsRoom : Sp := fun vs H Q _ => ∃ (R : Reg) (a t : Addr) (kn : List Str) (q : List Str × Int), vs = [.ref a, .ref t] ∧ WInv R H ∧ H a = some (.tup (kn.map V.str)) ∧ roomL H (.ref t) q ∧ RoomOk kn q ∧ q.1.length ≤ 60 ∧ ∀ H', Kp R H H' → Q (.bl true) H'
abbrev N_is_room : List Str := ["names", "room"]
theorem sc_is_room : FnScope N_is_room ["names", "room"] (defScope s_is_room) := ⟨rfl, rfl, rfl, by decide +kernel, rfl, by decide +kernel, by decide +kernel⟩
theorem c_is_room (T : Txt K mg) : Call P w K mg base 3 "is_room" ["names", "room"] spIsRoom := by
  refine mkCall T.d_is_room sc_is_room (fun _ _ _ _ _ _ us hl => match us, hl with | [_, _], _ => rfl) (fun vs H Q E h => ?_) (fun cdv A outer s H vs Q E hr h => ?_)
  · obtain ⟨R, a, t, kn, rm, rfl, _⟩ := h; rfl
  · obtain ⟨R, a, t, kn, rm, rfl, wi, ha, ⟨t', b, et, ht, hb⟩, ok, l60, q⟩ := h
    cases et
    refine ⟨_, (pss_cons (ps_if (PW.pt (pw_or (pt_not (pt_val (pe_callB call_isi (by rfl) T.f_isinstance bt_isinstance (pa_cons (pv 1) (pa_cons (pe_bltn (v := .ty "tuple") (by rfl) T.f_tuple bt_tuple rfl) pa_nil))))) (pw_or (pt_cmpR op_ne (pe_callB call_len_seq (by rfl) T.f_len bt_len (pa_cons (pv 1) pa_nil)) pe_int (nomark _)) (pw_or1 (pt_not (pt_val (pe_f (c_is_lot T) hr (pa_cons (pv 0) (pa_cons (pe_ix ix_tup (pv 1) pe_int (fun _ _ => rfl)) pa_nil))))))))) (pss_one (ps_ret pe_bl)) pss_nil)
      (pss_one (ps_ret (pe_and (pe_f (c_is_integer T) hr (pa_cons (pe_ix ix_tup (pv 1) pe_int (fun _ _ => rfl)) pa_nil)) (pe_one (pe_cmpR op_ge (pe_ix ix_tup (pv 1) pe_int (fun _ _ => rfl)) pe_int (nomark _))))))), ?_⟩
    refine ⟨_, rfl, _, _, _, _, _, rfl, .ty _, .base (.tup ht), k_tt, true, rfl, iteF ?_⟩
    refine ⟨_, rfl, t, _, rfl, .inr (SqT.of ht), rfl, _, rfl, iteF ?_⟩
    refine ⟨_, rfl, _, rfl, t, _, 0, _, rfl, rfl, SqT.of ht, rfl, ?_⟩
    refine ⟨R, b, a, kn, rm.1, rfl, wi, hb, ha, ok.ss.nodup, ok.sub, l60, fun H1 k1 => ⟨true, rfl, iteF ?_⟩⟩
    refine ⟨_, rfl, t, _, 1, _, rfl, rfl, SqT.of (k1.at ht), rfl, ?_⟩
    refine ⟨rm.2, rfl, _, rfl, iteT ?_⟩
    refine ⟨_, rfl, t, _, 1, _, rfl, rfl, SqT.of (k1.at ht), rfl, _, _, rfl, rfl, ?_⟩
    show Q (.bl (decide (0 ≤ rm.2))) H1
    rw [decide_eq_true ok.pos]
    exact q H1 k1
def spCrossed : Sp := fun vs H Q _ => ∃ (R : Reg) (a b : Addr) (A B : List Str), vs = [.ref a, .ref b] ∧ WInv R H ∧ H a = some (.tup (A.map V.str)) ∧ H b = some (.tup (B.map V.str)) ∧ A.length ≤ 60 ∧ (∀ x, x ∈ A → x ∉ B) ∧ ∀ H', Kp R H H' → Q (.bl false) H'
abbrev N_are_crossed : List Str := ["one", "other", "many"]
theorem sc_are_crossed : FnScope N_are_crossed ["one", "other"] (defScope s_are_crossed) := ⟨rfl, rfl, rfl, by decide +kernel, rfl, by decide +kernel, by decide +kernel⟩
theorem c_are_crossed (T : Txt K mg) : Call P w K mg base 2 "are_crossed" ["one", "other"] spCrossed := by
  refine mkCall T.d_are_crossed sc_are_crossed (fun _ _ _ _ _ _ us hl => match us, hl with | [_, _], _ => rfl) (fun vs H Q E h => ?_) (fun cdv A outer s H vs Q E hr h => ?_)
  · obtain ⟨R, a, b, A, B, rfl, _⟩ := h; rfl
  · obtain ⟨R, a, b, As, Bs, rfl, wi, ha, hb, l60, dj, q⟩ := h
    refine ⟨_, (pss_cons (ps_set (i := 2) sc_are_crossed.nd rfl (Or.inl rfl) (pe_callB call_len_seq (by rfl) T.f_len bt_len (pa_cons (pe_f (c_sharedT T) hr (pa_cons (pv 0) (pa_cons (pv 1) pa_nil))) pa_nil)))
      (pss_one (ps_ret (pe_chain op_lt op_lt pe_int (pv 2) (pe_callB (call_min2 rfl) (by rfl) T.f_min bt_min (pa_cons (pe_callB call_len_seq (by rfl) T.f_len bt_len (pa_cons (pv 0) pa_nil)) (pa_cons (pe_callB call_len_seq (by rfl) T.f_len bt_len (pa_cons (pv 1) pa_nil)) pa_nil))))))), ?_⟩
    refine ⟨_, rfl, _, rfl, R, a, b, As, Bs, rfl, wi, ha, hb, l60, fun H1 p k1 np hp => ?_⟩
    have e : (As.filter fun x => decide (x ∈ Bs)) = [] := by
      rw [List.filter_eq_nil_iff]
      intro x hx
      simpa using dj x hx
    rw [e] at hp
    refine ⟨p, _, rfl, .inl (SqL.of hp), _, rfl, _, _, rfl, rfl, false, rfl, iteF (q H1 k1)⟩
theorem roomV.updl {H : Hp} {l : Addr} {xs ys : List V} (hl : H l = some (.lst xs)) {v : V} {q : List Str × Int} (h : roomV H v q) : roomV (upd H l (.lst ys)) v q := by
  obtain ⟨t, a, e, h1, h2⟩ := h
  exact ⟨t, a, e, by rw [upd_ne fun z => by rw [z, hl] at h1; cases h1]; exact h1, by rw [upd_ne fun z => by rw [z, hl] at h2; cases h2]; exact h2⟩
theorem pw_get {α : Type} {r : α → α → Prop} {l : List α} (h : l.Pairwise r) {i j : Nat} {a b : α} (hi : l[i]? = some a) (hj : l[j]? = some b) (lt : i < j) : r a b := by
  obtain ⟨i1, rfl⟩ := List.getElem?_eq_some_iff.mp hi
  obtain ⟨j1, rfl⟩ := List.getElem?_eq_some_iff.mp hj
  exact List.pairwise_iff_getElem.mp h i j i1 j1 lt
def spCountsInit (K : PySem.W.Frag) : Sp := fun vs H Q _ => ∃ (R : Reg) (H0 : Hp) (p a l dx : Addr) (kn : List Str) (ws : List V) (rooms : List (List Str × Int)), vs = [.ref p, .ref a, .ref l] ∧ Kp R H0 H ∧ H0 p = none ∧ H p = some (.ins (He.ga K "Counts") dx []) ∧
  H a = some (.lst (kn.map V.str)) ∧ SS kn ∧ (∀ x, x ∈ kn → IsName x) ∧ kn.length ≤ 24 ∧ H l = some (.lst ws) ∧ Paired (roomL H) ws rooms ∧ rooms.length ≤ 60 ∧ (∀ q, q ∈ rooms → RoomOk kn q) ∧ rooms.Pairwise (fun q q' => ∀ x, x ∈ q.1 → x ∉ q'.1) ∧
  ∀ H', Kp R H0 H' → CntS K H' p kn rooms → Q .non H'
abbrev N_Counts_init : List Str := ["self", "things", "rooms", "index", "room", "at", "lot", "_", "more", "other"]
theorem sc_Counts_init : FnScope N_Counts_init ["self", "things", "rooms"] (defScope s_Counts_init) := ⟨rfl, rfl, rfl, by decide +kernel, rfl, by decide +kernel, by decide +kernel⟩
theorem c_Counts_init (T : Txt K mg) : CallM P w K mg base 4 "Counts" "__init__" ["self", "things", "rooms"] (spCountsInit K) := by
  obtain ⟨t24, hm_MOST_THINGS⟩ := T.i_MOST_THINGS
  obtain ⟨t60, hm_MOST_ROOMS⟩ := T.i_MOST_ROOMS
  refine mkMeth T.m_Counts_init sc_Counts_init (fun _ _ _ _ _ _ us hl => match us, hl with | [_, _, _], _ => rfl) (fun vs H Q E h => ?_) (fun cdv A outer s H vs Q E hr h => ?_)
  · obtain ⟨R, H0, p, a, l, dx, kn, ws, rooms, rfl, _⟩ := h; rfl
  · obtain ⟨R, H0, p, a, l, dx, kn, ws, rooms, rfl, k0, h0, h1, ha, ss, hn, l24, hl, hrm, l60, hok, dj, q⟩ := h
    obtain ⟨its, rfl, rfl, hits⟩ := paired_zip hrm
    rw [List.length_map] at l60
    have npl : l ≠ p := fun e => by rw [e, h1] at hl; cases hl
    refine ⟨_, (pss_cons (ps_fld (pv 0) (pe_callTy call_tuple_of (by rfl) T.f_tuple bt_tuple (pa_cons (pe_f (c_need_things T) hr (pa_cons (pv 1) (pa_cons (pe_glob (v := .int 24) (by rfl) hm_MOST_THINGS ⟨_, rfl⟩) pa_nil))) pa_nil)) rfl)
      (pss_cons (ps_if (pt_cmpR op_gt (pe_callB call_len_seq (by rfl) T.f_len bt_len (pa_cons (pv 2) pa_nil)) (pe_glob (v := .int 60) (by rfl) hm_MOST_ROOMS ⟨_, rfl⟩) (nomark _)) (pss_one (ps_never)) pss_nil)
      (pss_cons (ps_fld (pv 0) (pe_lst pa_nil) rfl)
      (pss_cons (ps_for PassesOwn.never rfl (pi_enum (by rfl) T.f_enumerate (pa_cons (pv 2) pa_nil)) (pg_tup (by rfl) (pgs_cons (pg_name (i := 3) sc_Counts_init.nd rfl (by first | exact Or.inl rfl | exact Or.inr rfl)) (pgs_cons (pg_name (i := 4) sc_Counts_init.nd rfl (by first | exact Or.inl rfl | exact Or.inr rfl)) pgs_nil))) (pss_cons (ps_if (pt_not (pt_val (pe_f (c_is_room T) hr (pa_cons (pe_fld (pv 0) rfl) (pa_cons (pv 4) pa_nil))))) (pss_one (ps_never)) pss_nil)
      (pss_one (ps_expr (pe_bm PySem.F.plainAttrs_list PySem.F.slot_list_append PySem.F.type_list_append mt_append (pe_fld (pv 0) rfl) (pa_cons (pe_tup (pa_cons (pe_callTy call_tuple_of (by rfl) T.f_tuple bt_tuple (pa_cons (pe_callB cr_sortedS (by rfl) T.f_sorted bt_sorted (pa_cons (pe_ix ix_tup (pv 4) pe_int (fun _ _ => rfl)) pa_nil)) pa_nil)) (pa_cons (pe_ix ix_tup (pv 4) pe_int (fun _ _ => rfl)) pa_nil))) pa_nil))))))
      (pss_one (ps_for PassesOwn.never rfl (pi_enum (by rfl) T.f_enumerate (pa_cons (pe_fld (pv 0) rfl) pa_nil)) (pg_tup (by rfl) (pgs_cons (pg_name (i := 5) sc_Counts_init.nd rfl (by first | exact Or.inl rfl | exact Or.inr rfl)) (pgs_cons (pg_tup (by rfl) (pgs_cons (pg_name (i := 6) sc_Counts_init.nd rfl (by first | exact Or.inl rfl | exact Or.inr rfl)) (pgs_cons (pg_name (i := 7) sc_Counts_init.nd rfl (by first | exact Or.inl rfl | exact Or.inr rfl)) pgs_nil))) pgs_nil))) (pss_one (ps_for PassesOwn.never rfl (pi_enum (by rfl) T.f_enumerate (pa_cons (pe_fld (pv 0) rfl) pa_nil)) (pg_tup (by rfl) (pgs_cons (pg_name (i := 8) sc_Counts_init.nd rfl (by first | exact Or.inl rfl | exact Or.inr rfl)) (pgs_cons (pg_tup (by rfl) (pgs_cons (pg_name (i := 9) sc_Counts_init.nd rfl (by first | exact Or.inl rfl | exact Or.inr rfl)) (pgs_cons (pg_name (i := 7) sc_Counts_init.nd rfl (by first | exact Or.inl rfl | exact Or.inr rfl)) pgs_nil))) pgs_nil))) (pss_one (ps_if (PW.pt (pw_and (pt_cmpR op_lt (pv 5) (pv 8) (nomark _)) (pw_and1 (pt_val (pe_f (c_are_crossed T) hr (pa_cons (pv 6) (pa_cons (pv 9) pa_nil))))))) (pss_one (ps_never)) pss_nil)))))))))), ?_⟩
    -- self.known = tuple(need_things(things, MOST_THINGS))
    refine ⟨_, rfl, R, a, kn, rfl, k0.w, ha, ss.nodup, hn, l24, fun H1 u k1 nu hu1 => ?_⟩
    rw [srt_of_ss ss] at hu1
    refine ⟨u, _, rfl, .inl ⟨SqL.of hu1, fun t nt => ?_⟩⟩
    have k2 := k1.new nt (o := .tup (kn.map V.str))
    have ntp : t ≠ p := (ne_of_none (k1.at h1) nt).symm
    refine ⟨_, rfl, p, _, dx, _, rfl, k2.at h1, T.c_Counts, T.n_Counts_known, by show (0 : Nat) < 1000; decide, ?_⟩
    have k3 : Kp R H0 (upd (upd H1 t (.tup (kn.map V.str))) p (.ins (He.ga K "Counts") dx (putF "known" (.ref t) []))) := (k0.trans k2).mut h0
    have ht3 : (upd (upd H1 t (.tup (kn.map V.str))) p (.ins (He.ga K "Counts") dx (putF "known" (.ref t) []))) t = some (.tup (kn.map V.str)) := by rw [upd_ne ntp]; exact upd_same
    have kp3 : ∀ {b o}, H b = some o → b ≠ p → isT o = false → (upd (upd H1 t (.tup (kn.map V.str))) p (.ins (He.ga K "Counts") dx (putF "known" (.ref t) []))) b = some o := fun {b o} h n hT => by rw [upd_ne n]; exact k2.at h hT
    have hp3 : (upd (upd H1 t (.tup (kn.map V.str))) p (.ins (He.ga K "Counts") dx (putF "known" (.ref t) []))) p = some (.ins (He.ga K "Counts") dx [("known", .ref t)]) := upd_same
    generalize (upd (upd H1 t (.tup (kn.map V.str))) p (.ins (He.ga K "Counts") dx (putF "known" (.ref t) []))) = H3 at k3 ht3 kp3 hp3
    refine ⟨_, rfl, l, _, rfl, .inl (SqL.of (kp3 hl npl rfl)), _, _, rfl, rfl, false, dF (by rw [List.length_map]; omega), iteF ?_⟩
    refine ⟨Nat.zero_le _, fun hd nhd => ?_⟩
    have nhp : hd ≠ p := (ne_of_none hp3 nhd).symm
    refine ⟨_, rfl, p, _, dx, _, rfl, by rw [upd_ne nhp.symm]; exact hp3, T.c_Counts, T.n_Counts_held, by show (1 : Nat) < 1000; decide, ?_⟩
    have k4 : Kp R H0 (upd (upd H3 hd (.lst [])) p (.ins (He.ga K "Counts") dx (putF "held" (.ref hd) [("known", .ref t)]))) := (k3.new nhd).mut h0
    have h0hd : H0 hd = none := k3.fr nhd
    have kp4 : ∀ {b o}, H3 b = some o → b ≠ p → (upd (upd H3 hd (.lst [])) p (.ins (He.ga K "Counts") dx (putF "held" (.ref hd) [("known", .ref t)]))) b = some o := fun {b o} h n => by rw [upd_ne n, upd_ne (ne_of_none h nhd)]; exact h
    have hp4 : (upd (upd H3 hd (.lst [])) p (.ins (He.ga K "Counts") dx (putF "held" (.ref hd) [("known", .ref t)]))) p = some (.ins (He.ga K "Counts") dx [("known", .ref t), ("held", .ref hd)]) := upd_same
    have hh4 : (upd (upd H3 hd (.lst [])) p (.ins (He.ga K "Counts") dx (putF "held" (.ref hd) [("known", .ref t)]))) hd = some (.lst []) := by rw [upd_ne nhp]; exact upd_same
    generalize (upd (upd H3 hd (.lst [])) p (.ins (He.ga K "Counts") dx (putF "held" (.ref hd) [("known", .ref t)]))) = H4 at k4 kp4 hp4 hh4
    have ht4 := kp4 ht3 ntp
    have hl4 := kp4 (kp3 hl npl rfl) npl
    have hit4 : ∀ x, x ∈ its → ∃ t' b, x.1 = .ref t' ∧ H4 t' = some (.tup [.ref b, .int x.2.2]) ∧ H4 b = some (.lst (x.2.1.map V.str)) ∧ t' ≠ hd ∧ b ≠ hd := fun x hx => by
      obtain ⟨t', b, e, g1, g2⟩ := hits x hx
      have p1 := kp3 g1 (fun z => by rw [z, h1] at g1; cases g1) rfl
      have p2 := kp3 g2 (fun z => by rw [z, h1] at g2; cases g2) rfl
      exact ⟨t', b, e, kp4 p1 (fun z => by rw [z, h1] at g1; cases g1), kp4 p2 (fun z => by rw [z, h1] at g2; cases g2), ne_of_none p1 nhd, ne_of_none p2 nhd⟩
    have nhl : hd ≠ l := fun z => by rw [z, kp3 hl npl rfl] at nhd; cases nhd
    -- for index, room in enumerate(rooms)
    refine ⟨_, rfl, l, its.map (·.1), rfl, SqL.of hl4, ?_⟩
    have kpm : ∀ {H5 : Hp} {ys : List V}, (∀ b o, H4 b = some o → b ≠ hd → isT o = false → H5 b = some o) → (∀ b o, H4 b = some o → b ≠ hd → isT o = false → (upd H5 hd (.lst ys)) b = some o) := fun {H5 ys} h b o e n hT => by
      rw [upd_ne n]; exact h b o e n hT
    refine forE (G := fun H1 => H1 l = some (.lst (its.map (·.1)))) (c := (·.1)) (its := its) (fun H1 g => SqL.of g)
      (fun i σ H5 => ∃ v3 v4 hs, σ = [some (.ref p), some (.ref a), some (.ref l), v3, v4, none, none, none, none, none] ∧ Kp R H0 H5 ∧ (∀ b o, H4 b = some o → b ≠ hd → isT o = false → H5 b = some o) ∧ H5 hd = some (.lst hs) ∧ Paired (roomV H5) hs ((its.take i).map (·.2)))
      (fun i σ H5 ⟨_, _, _, _, _, k, _⟩ => k l _ hl4 nhl.symm rfl) ⟨none, none, [], rfl, k4, fun b o h _ _ => h, hh4, .nil⟩ ?_ ?_
    · rintro i x σ H5 tt hx ⟨v3, v4, hs, rfl, k5, kk5, hh5, hpr⟩ ntt
      have hxm : x ∈ its := List.mem_of_getElem? hx
      obtain ⟨rt, rb, ev, g1, g2, n1, n2⟩ := hit4 x hxm
      have okx := hok x.2 (List.mem_map.mpr ⟨x, hxm, rfl⟩)
      have lx : x.2.1.length ≤ 24 := Nat.le_trans (Bf.nodup_le okx.ss.nodup okx.sub) l24
      have g1' := kk5 rt _ g1 n1 rfl
      have g2' := kk5 rb _ g2 n2 rfl
      have ht5 := kk5 t _ ht4 (fun z => by rw [z, hh4] at ht4; cases ht4) rfl
      have hp5 := kk5 p _ hp4 nhp.symm rfl
      have kt := Kp.upd k5.w ntt (o := .tup [.int (i : Nat), x.1])
      refine ⟨tt, _, rfl, SqT.of upd_same, rfl, _, _, rfl, _, _, rfl, rfl, ?_⟩
      rw [ev] at *
      refine ⟨_, rfl, p, _, dx, _, _, rfl, kt.at hp5, T.c_Counts, T.n_Counts_known, rfl, _, rfl, ?_⟩
      refine ⟨R, t, rt, kn, x.2, rfl, kt.w, kt.at ht5, ⟨rt, rb, rfl, kt.at g1', kt.at g2'⟩, okx, by omega, fun H6 k6 => ⟨true, rfl, iteF ?_⟩⟩
      have kt6 := kt.trans k6
      refine ⟨_, rfl, p, _, dx, _, _, rfl, kt6.at hp5, T.c_Counts, T.n_Counts_held, rfl, .inl ⟨rfl, _, SqL.of (kt6.at hh5)⟩, ?_⟩
      refine ⟨_, rfl, rt, _, 0, _, rfl, rfl, SqT.of (kt6.at g1'), rfl, ?_⟩
      refine ⟨rb, x.2.1, rfl, SqL.of (kt6.at g2'), by omega, fun ys g hg hs' ng => ?_⟩
      rw [sorted_is hg hs', srt_of_ss okx.ss]
      have k7 := kt6.new ng (o := .lst (x.2.1.map V.str))
      refine ⟨g, _, rfl, .inl ⟨SqL.of upd_same, fun e ne => ?_⟩⟩
      have k8 := k7.new ne (o := .tup (x.2.1.map V.str))
      refine ⟨_, rfl, rt, _, 1, _, rfl, rfl, SqT.of (k8.at g1'), rfl, ?_⟩
      refine ⟨by show 2 ≤ sizeLine; decide, fun f nf => ?_⟩
      have k9 := k8.new nf (o := .tup [V.ref e, V.int x.2.2])
      have ku := Kp.upd k8.w nf (o := .tup [V.ref e, V.int x.2.2])
      have hse : hs.length ≤ 60 := by
        rw [hpr.length, List.length_map, List.length_take]; omega
      refine ⟨hd, _, _, rfl, rfl, k9.at hh5, Nat.lt_of_le_of_lt hse (by decide), ?_⟩
      refine ⟨_, _, _, rfl, (k5.trans k9).mut h0hd, kpm fun b o h n hT => k9.at (kk5 b o h n hT) hT, upd_same, ?_⟩
      rw [take_succ_at hx, List.map_append]
      have pr' := L2.Paired.mapP hpr fun v z h => (h.mono k9).updl (ys := hs ++ [V.ref f]) (k9.at hh5)
      exact paired_app pr' (.cons (roomV.updl (k9.at hh5) ⟨f, e, rfl, upd_same, ku.at upd_same⟩) .nil)
    · rintro σ H5 ⟨v3, v4, hs, rfl, k5, kk5, hh5, hpr⟩
      rw [List.take_length] at hpr
      have hp5 := kk5 p _ hp4 nhp.symm rfl
      have ht5 := kk5 t _ ht4 (fun z => by rw [z, hh4] at ht4; cases ht4) rfl
      have hpr0 := hpr
      obtain ⟨jts, rfl, ej, hj⟩ := paired_zip hpr
      have dj' : (jts.map (·.2)).Pairwise (fun q q' => ∀ x, x ∈ q.1 → x ∉ q'.1) := by rw [← ej]; exact dj
      have ok' : ∀ x, x ∈ jts → RoomOk kn x.2 := fun x hx => hok x.2 (by rw [ej]; exact List.mem_map.mpr ⟨x, hx, rfl⟩)
      have fin : ∀ H6, Kp R H5 H6 → CntS K H6 p kn (its.map (·.2)) := fun H6 k6 => ⟨⟨dx, t, hd, jts.map (·.1), k6.at hp5, k6.at ht5, k6.at hh5, L2.Paired.mapP hpr0 fun v z h => h.mono k6⟩, by rw [List.length_map]; exact l60⟩
      refine ⟨_, rfl, p, _, dx, _, _, rfl, hp5, T.c_Counts, T.n_Counts_held, rfl, hd, _, rfl, SqL.of hh5, ?_⟩
      refine forE (G := fun H6 => H6 hd = some (.lst (jts.map (·.1)))) (c := (·.1)) (its := jts) (fun H6 g => SqL.of g)
        (fun i σ H6 => ∃ v3 v4 v5 v6 v7 v8 v9, σ = [some (.ref p), some (.ref a), some (.ref l), v3, v4, v5, v6, v7, v8, v9] ∧ Kp R H5 H6)
        (fun i σ H6 ⟨_, _, _, _, _, _, _, _, k⟩ => k.at hh5) ⟨_, _, _, _, _, _, _, rfl, Kp.refl k5.w⟩ ?_ ?_
      · rintro i x σ H6 t1 hx ⟨v3, v4, v5, v6, v7, v8, v9, rfl, k6⟩ nt1
        have hxm : x ∈ jts := List.mem_of_getElem? hx
        obtain ⟨rt, rb, ev, g1, g2⟩ := hj x hxm
        have okx := ok' x hxm
        have lx : x.2.1.length ≤ 24 := Nat.le_trans (Bf.nodup_le okx.ss.nodup okx.sub) l24
        have k7 := k6.new nt1 (o := .tup [.int (i : Nat), x.1])
        refine ⟨t1, _, rfl, SqT.of upd_same, rfl, _, _, rfl, _, _, rfl, ⟨rt, _, ev, SqT.of (k7.at g1), rfl, _, _, rfl, _, _, rfl, rfl, ?_⟩⟩
        refine ⟨rfl, ?_⟩
        refine ⟨_, rfl, p, _, dx, _, _, rfl, k7.at hp5, T.c_Counts, T.n_Counts_held, rfl, hd, _, rfl, SqL.of (k7.at hh5), ?_⟩
        refine forE (G := fun H8 => H8 hd = some (.lst (jts.map (·.1)))) (c := (·.1)) (its := jts) (fun H8 g => SqL.of g)
          (fun j σ H8 => ∃ v7 v8 v9, σ = [some (.ref p), some (.ref a), some (.ref l), v3, v4, some (.int (i : Nat)), some (.ref rb), v7, v8, v9] ∧ Kp R H5 H8)
          (fun j σ H8 ⟨_, _, _, _, k⟩ => k.at hh5) ⟨_, _, _, rfl, k7⟩ ?_ ?_
        · rintro j y σ H8 t2 hy ⟨v7', v8', v9', rfl, k8⟩ nt2
          have hym : y ∈ jts := List.mem_of_getElem? hy
          obtain ⟨rt', rb', ev', g1', g2'⟩ := hj y hym
          have k9 := k8.new nt2 (o := .tup [.int (j : Nat), y.1])
          refine ⟨t2, _, rfl, SqT.of upd_same, rfl, _, _, rfl, _, _, rfl, ⟨rt', _, ev', SqT.of (k9.at g1'), rfl, _, _, rfl, _, _, rfl, rfl, ?_⟩⟩
          refine ⟨rfl, ?_⟩
          refine ⟨_, rfl, _, rfl, _, _, rfl, rfl, _, rfl, ?_⟩
          refine ite2 (fun hc => ?_) (fun hc => ?_)
          · have hlt : i < j := by have := of_decide_eq_true hc; omega
            refine ⟨_, rfl, _, rfl, R, rb, rb', x.2.1, y.2.1, rfl, k9.w, k9.at g2, k9.at g2', by omega, ?_, fun Ha ka => ⟨_, rfl, iteF ⟨_, _, _, rfl, k9.trans ka⟩⟩⟩
            exact pw_get dj' (i := i) (j := j) (by rw [List.getElem?_map, hx]; rfl) (by rw [List.getElem?_map, hy]; rfl) hlt
          · exact iteF ⟨_, _, _, rfl, k9⟩
        · rintro σ H8 ⟨v7', v8', v9', rfl, k8⟩
          exact ⟨_, _, _, _, _, _, _, rfl, k8⟩
      · rintro σ H6 ⟨v3, v4, v5, v6, v7, v8, v9, rfl, k6⟩
        exact q H6 (k5.trans k6) (fin H6 k6)
/-! ### the family -/
def spCntThings (K : PySem.W.Frag) : Sp := fun vs H Q _ => ∃ (R : Reg) (p : Addr) (kn : List Str) (rooms : List (List Str × Int)), vs = [.ref p] ∧ WInv R H ∧ CntS K H p kn rooms ∧ ∀ H' l, Kp R H H' → H l = none → H' l = some (.lst (kn.map V.str)) → Q (.ref l) H'
abbrev N_Counts_things : List Str := ["self"]
theorem sc_Counts_things : FnScope N_Counts_things ["self"] (defScope s_Counts_things) := ⟨rfl, rfl, rfl, by decide +kernel, rfl, by decide +kernel, by decide +kernel⟩
theorem c_Counts_things (T : Txt K mg) : CallM P w K mg base 1 "Counts" "things" ["self"] (spCntThings K) := by
  refine mkMeth T.m_Counts_things sc_Counts_things (fun _ _ _ _ _ _ us hl => match us, hl with | [_], _ => rfl) (fun vs H Q E h => ?_) (fun cdv A outer s H vs Q E hr h => ?_)
  · obtain ⟨R, p, nm, r, rfl, _⟩ := h; rfl
  · obtain ⟨R, p, kn, rooms, rfl, wi, hC, q⟩ := h
    obtain ⟨dx, k, l, vs, h1, h2, h3, _⟩ := hC.ob
    refine ⟨_, (pss_one (ps_ret (pe_callTy call_list_of (by rfl) T.f_list bt_list (pa_cons (pe_fld (pv 0) rfl) pa_nil)))), ?_⟩
    refine ⟨_, rfl, p, _, dx, _, _, rfl, h1, T.c_Counts, T.n_Counts_known, rfl, ?_⟩
    exact ⟨k, _, rfl, .inr (SqT.of h2), fun l nl => q _ l (Kp.upd wi nl) nl upd_same⟩
def spCWInit (K : PySem.W.Frag) : Sp := fun vs H Q _ => ∃ (R : Reg) (H0 : Hp) (p c dx : Addr), vs = [.ref p, .ref c] ∧ Kp R H0 H ∧ H0 p = none ∧ H p = some (.ins (He.ga K "CountsWorld") dx []) ∧
  ∀ H', Kp R H0 H' → H' p = some (.ins (He.ga K "CountsWorld") dx [("table", .ref c)]) → Q .non H'
abbrev N_CountsWorld_init : List Str := ["self", "counts"]
theorem sc_CountsWorld_init : FnScope N_CountsWorld_init ["self", "counts"] (defScope s_CountsWorld_init) := ⟨rfl, rfl, rfl, by decide +kernel, rfl, by decide +kernel, by decide +kernel⟩
theorem c_CountsWorld_init (T : Txt K mg) : CallM P w K mg base 1 "CountsWorld" "__init__" ["self", "counts"] (spCWInit K) := by
  refine mkMeth T.m_CountsWorld_init sc_CountsWorld_init (fun _ _ _ _ _ _ us hl => match us, hl with | [_, _], _ => rfl) (fun vs H Q E h => ?_) (fun cdv A outer s H vs Q E hr h => ?_)
  · obtain ⟨R, H0, p, c, dx, rfl, _⟩ := h; rfl
  · obtain ⟨R, H0, p, c, dx, rfl, k, h0, h1, q⟩ := h
    refine ⟨_, (pss_one (ps_fld (pv 0) (pv 1) rfl)), ?_⟩
    refine ⟨_, rfl, _, rfl, p, _, dx, _, rfl, h1, T.c_CountsWorld, T.n_CountsWorld_table, by show (0 : Nat) < 1000; decide, ?_⟩
    exact q _ (k.mut h0) upd_same
abbrev N_counts_family : List Str := ["counts"]
theorem sc_counts_family : FnScope N_counts_family ["counts"] (defScope s_counts_family) := ⟨rfl, rfl, rfl, by decide +kernel, rfl, by decide +kernel, by decide +kernel⟩
theorem c_counts_family (T : Txt K mg) : Call P w K mg base 3 "counts_family" ["counts"] (spFamOf K fun H c nm r => ∃ rooms, CntS K H c nm rooms ∧ ∀ A, Lot nm A → cntRk rooms A = r A) := by
  obtain ⟨ff, F_Family, b_Family⟩ := (c_Family_init (P := P) (w := w) (base := base) T).ex
  obtain ⟨fc, F_CountsWorld, b_CountsWorld⟩ := (c_CountsWorld_init (P := P) (w := w) (base := base) T).ex
  obtain ⟨ft, F_c_Counts_things, b_c_Counts_things⟩ := (c_Counts_things (P := P) (w := w) (base := base) T).ex
  refine mkCall T.d_counts_family sc_counts_family (fun _ _ _ _ _ _ us hl => match us, hl with | [_], _ => rfl) (fun vs H Q E h => ?_) (fun cdv A outer s H vs Q E hr h => ?_)
  · obtain ⟨R, c, nm, r, rfl, _⟩ := h; rfl
  · obtain ⟨R, c, nm, r, rfl, wi, ⟨rooms, hC, he⟩, ss, l8, rk, ok, q⟩ := h
    obtain ⟨dx, kk, l, vs, h1, h2, h3, _⟩ := hC.ob
    refine ⟨_, (pss_one (ps_ret (pe_make T.k_Family F_Family (hr.mono (by decide)) (by rfl) T.g_Family b_Family .nil pass0 (pa_cons (pe_meth0 (pv 0) T.c_Counts T.h_Counts_things F_c_Counts_things (hr.mono (by decide)) b_c_Counts_things .nil pass0) (pa_cons (pe_make T.k_CountsWorld F_CountsWorld (hr.mono (by decide)) (by rfl) T.g_CountsWorld b_CountsWorld .nil pass0 (pa_cons (pv 0) pa_nil)) pa_nil))))), ?_⟩
    refine ⟨_, rfl, c, dx, _, rfl, h1, rfl, R, c, nm, rooms, rfl, wi, hC, fun H1 l1 k1 n1 h1 => ?_⟩
    refine ⟨_, rfl, ?_⟩
    refine fun u du nu ndu _ => ⟨R, _, u, c, du, rfl, (Kp.upd k1.w ndu).mut nu, nu, upd_same, fun H4 k4 hu4 => ⟨rfl, ?_⟩⟩
    refine make_fam (Q := Q) (K := K) (r := r) k4.w (.inl (k4.at h1)) ss l8 rk ok fun H5 z R' ext k5 w5 nz hO5 => ?_
    have kk := (k1.trans k4).trans k5
    exact q R' H5 z ext kk w5 ⟨u, hO5, .cnt (k5.at hu4) (hC.mono kk) he⟩
end
end Bw
set_option Elab.async false
set_option linter.all false
set_option maxRecDepth 100000
set_option maxHeartbeats 4000000
/-! split.py: weights, entries, trades -/
namespace Bm
open PySem PySem.Spec PyProof.Rows Bs Bf
/-- the things with which a lot has a greater rank -/
def ents (r : List Str → Nat) (nm A : List Str) : List Str := (les nm A).filter fun x => decide (A.length < r (wth A x))
/-- the things for which y may go -/
def goals (r : List Str → Nat) (nm A : List Str) (y : Str) : List Str := (les nm A).filter fun x => decide (r (wth (les A [y]) x) = A.length)
/-- the pairs (out, in) -/
def trd (r : List Str → Nat) (nm A : List Str) : List (Str × Str) := A.flatMap fun y => (goals r nm A y).map fun x => (y, x)
def stp (r1 r2 : List Str → Nat) (nm A : List Str) : List (Str × Str) := trd r1 nm A ++ (trd r2 nm A).map fun q => (q.2, q.1)
theorem mem_trd {r : List Str → Nat} {nm A : List Str} {q : Str × Str} : q ∈ trd r nm A ↔ q.1 ∈ A ∧ q.2 ∈ nm ∧ q.2 ∉ A ∧ r (wth (les A [q.1]) q.2) = A.length := by
  unfold trd goals
  rw [List.mem_flatMap]
  constructor
  · rintro ⟨y, hy, h⟩
    obtain ⟨x, hx, rfl⟩ := List.mem_map.mp h
    obtain ⟨a, b⟩ := List.mem_filter.mp hx
    exact ⟨hy, (mem_les.mp a).1, (mem_les.mp a).2, of_decide_eq_true b⟩
  · rintro ⟨a, b, c, d⟩
    exact ⟨q.1, a, List.mem_map.mpr ⟨q.2, List.mem_filter.mpr ⟨mem_les.mpr ⟨b, c⟩, decide_eq_true d⟩, rfl⟩⟩
theorem les_one_len {A : List Str} (nd : A.Nodup) {y : Str} (hy : y ∈ A) : (les A [y]).length + 1 = A.length := by
  induction A with
  | nil => cases hy
  | cons a A ih =>
    have nd' := List.nodup_cons.mp nd
    by_cases e : a = y
    · subst e
      have e1 : les (a :: A) [a] = A := by
        unfold les
        rw [List.filter_cons, if_neg (by simp), List.filter_eq_self]
        intro x hx
        have : x ≠ a := fun z => nd'.1 (z ▸ hx)
        simpa using this
      rw [e1]; rfl
    · have e1 : les (a :: A) [y] = a :: les A [y] := by
        unfold les
        rw [List.filter_cons, if_pos (by simpa using e)]
      rw [e1, List.length_cons, List.length_cons, ih nd'.2 (by
        rcases List.mem_cons.mp hy with q | q
        · exact absurd q.symm e
        · exact q)]
/-- for lots: a trade is an exchange -/
theorem trd_ex {r : List Str → Nat} (R : IsRk r) {nm A : List Str} (nd : A.Nodup) {y x : Str} : (y, x) ∈ trd r nm A ↔ y ∈ A ∧ x ∈ nm ∧ x ∉ A ∧ Ex r A y x := by
  rw [mem_trd]
  refine and_congr_right fun hy => and_congr_right fun hx => and_congr_right fun hxA => ?_
  rw [← fre_chg R]
  unfold fre
  rw [decide_eq_true_iff, wth_len]
  have := les_one_len nd hy
  show r (wth (les A [y]) x) = A.length ↔ r (wth (les A [y]) x) = (les A [y]).length + 1
  rw [this]
theorem ents_ex {r : List Str → Nat} (R : IsRk r) {nm A : List Str} (i : Ind r A) {x : Str} : x ∈ ents r nm A ↔ x ∈ nm ∧ x ∉ A ∧ Ind r (x :: A) := by
  unfold ents
  rw [List.mem_filter, mem_les, decide_eq_true_iff, and_assoc, ← fre_wth R]
  refine and_congr_right fun _ => and_congr_right fun _ => ?_
  unfold fre
  rw [decide_eq_true_iff, wth_len]
  have e : r (wth A x) = r (x :: A) := R.ext _ _ fun z => by rw [mem_wth, List.mem_cons]; exact Or.comm
  have h1 := R.le1 x A
  have h2 : r A = A.length := i
  rw [e]
  omega
end Bm
namespace Bw
open PySem PySem.Spec PyProof.Rows L2 Bt Bs Bm
section
variable {P : Program} {w : World} {K : PySem.W.Frag} {mg : Str → Option Value} {base : Heap}
/-- weights by name -/
abbrev wtD (nm : List Str) (wt : Str → Int) : List (Key × V) := DFn nm fun t => .int (wt t)
theorem wt_get {H : Hp} {d : Addr} {nm : List Str} {wt : Str → Int} {x : Str} (h : H d = some (.dK (wtD nm wt))) (hx : x ∈ nm) : DGet H d (.str x) (some (.int (wt x))) := by
  have e : valV (wtD nm wt) (Sum.inr x) = some (.int (wt x)) := dfn_get hx
  exact e ▸ DGet.k (k := Sum.inr x) h
def spNeedWeights : Sp := fun vs H Q _ => ∃ (R : Reg) (a d : Addr) (nm : List Str) (wt : Str → Int), vs = [.ref a, .ref d] ∧ WInv R H ∧ H a = some (.tup (nm.map V.str)) ∧ H d = some (.dK (wtD nm wt)) ∧ nm.length ≤ 8 ∧ ∀ H', Kp R H H' → Q .non H'
abbrev N_need_weights : List Str := ["things", "weights", "name"]
theorem sc_need_weights : FnScope N_need_weights ["things", "weights"] (defScope s_need_weights) := ⟨rfl, rfl, rfl, by decide +kernel, rfl, by decide +kernel, by decide +kernel⟩
theorem c_need_weights (T : Txt K mg) : Call P w K mg base 2 "need_weights" ["things", "weights"] spNeedWeights := by
  refine mkCall T.d_need_weights sc_need_weights (fun _ _ _ _ _ _ us hl => match us, hl with | [_, _], _ => rfl) (fun vs H Q E h => ?_) (fun cdv A outer s H vs Q E hr h => ?_)
  · obtain ⟨R, a, d, nm, wt, rfl, _⟩ := h; rfl
  · obtain ⟨R, a, d, nm, wt, rfl, wi, ha, hd, l8, q⟩ := h
    have hu := hu_of hr
    refine ⟨_, (pss_one (ps_for PassesOwn.never rfl (pi_list (pe_callB cr_sortedS (by rfl) T.f_sorted bt_sorted (pa_cons (pe_lst (StX.pa_star (pv 0) (pa_starD (pv 1) pa_nil))) pa_nil))) (pg_name (i := 2) sc_need_weights.nd rfl (by first | exact Or.inl rfl | exact Or.inr rfl)) (pss_one (ps_if (PW.pt (pw_or (pt_cmpR op_notIn_seq (pv 2) (pv 0) (by rfl)) (pw_or (pt_cmp (pc_dnotin hu (pv 2) (pv 1))) (pw_or1 (pt_not (pt_val (pe_f (c_is_integer T) hr (pa_cons (pe_dget hu (pv 1) (pv 2) (fun _ _ => rfl)) pa_nil)))))))) (pss_one (ps_never)) pss_nil)))), ?_⟩
    refine ⟨_, rfl, a, _, rfl, .inl (SqT.of ha), _, rfl, d, _, rfl, hd, ?_, fun l nl => ?_⟩
    · rw [List.append_nil, dfn_vals, ← List.map_append, List.length_map, List.length_append]
      exact Nat.le_trans (show _ ≤ 8 + 8 from Nat.add_le_add l8 l8) (by decide)
    rw [List.append_nil, dfn_vals, ← List.map_append]
    have k1 := Kp.upd wi nl (o := .lst ((nm ++ nm).map V.str))
    refine ⟨l, nm ++ nm, rfl, SqL.of upd_same, by rw [List.length_append]; omega, fun ys g hg hs ng => ?_⟩
    rw [sorted_is hg hs]
    have k2 := k1.new ng (o := .lst ((srt (nm ++ nm)).map V.str))
    refine ⟨g, rfl, ⟨_, SqL.of upd_same⟩, ?_⟩
    refine forG (G := fun H3 => H3 g = some (.lst ((srt (nm ++ nm)).map V.str))) (src_lstG (c := V.str) (its := srt (nm ++ nm)) fun _ g => g)
      (fun i σ H3 => ∃ v3, σ = [some (.ref a), some (.ref d), v3] ∧ Kp R H H3 ∧ H3 g = some (.lst ((srt (nm ++ nm)).map V.str)))
      (fun i σ H3 ⟨_, _, _, g⟩ => g) ⟨none, rfl, k2, upd_same⟩ ?_ ?_
    · rintro i x σ H3 hx ⟨v3, rfl, k3, hg3⟩
      have hxn : x ∈ nm := by
        have := mem_srt.mp (List.mem_of_getElem? hx)
        rcases List.mem_append.mp this with z | z <;> exact z
      refine ⟨_, rfl, _, rfl, a, nm.map V.str, rfl, .inr (SqT.of (k3.at ha)), rfl, flat_strs _, _, rfl, ?_⟩
      rw [if_pos rfl, inV_str, decide_eq_true hxn]
      refine iteF ⟨_, rfl, _, rfl, d, _, rfl, DGet.k (k := Sum.inr x) (k3.at hd), _, rfl, ?_⟩
      rw [dfn_get hxn]
      refine iteF ⟨_, rfl, _, rfl, d, _, rfl, wt_get (k3.at hd) hxn, wt x, rfl, true, rfl, iteF ?_⟩
      exact ⟨_, rfl, k3, hg3⟩
    · rintro σ H3 ⟨v3, rfl, k3, hg3⟩
      exact q H3 k3
def spNeedBoth (K : PySem.W.Frag) : Sp := fun vs H Q _ => ∃ (R : Reg) (p1 p2 d : Addr) (nm : List Str) (r1 r2 : List Str → Nat) (wt : Str → Int), vs = [.ref p1, .ref p2, .ref d] ∧ WInv R H ∧ FamS K R H p1 nm r1 ∧ FamS K R H p2 nm r2 ∧ H d = some (.dK (wtD nm wt)) ∧ ∀ H', Kp R H H' → Q .non H'
abbrev N_need_both : List Str := ["one", "other", "weights"]
theorem sc_need_both : FnScope N_need_both ["one", "other", "weights"] (defScope s_need_both) := ⟨rfl, rfl, rfl, by decide +kernel, rfl, by decide +kernel, by decide +kernel⟩
theorem c_need_both (T : Txt K mg) : Call P w K mg base 3 "need_both" ["one", "other", "weights"] (spNeedBoth K) := by
  refine mkCall T.d_need_both sc_need_both (fun _ _ _ _ _ _ us hl => match us, hl with | [_, _, _], _ => rfl) (fun vs H Q E h => ?_) (fun cdv A outer s H vs Q E hr h => ?_)
  · obtain ⟨R, p1, p2, d, nm, r1, r2, wt, rfl, _⟩ := h; rfl
  · obtain ⟨R, p1, p2, d, nm, r1, r2, wt, rfl, wi, hF, hG, hd, q⟩ := h
    obtain ⟨dx, n1, o1, d1, g1, hn1⟩ := hF.nmA
    refine ⟨_, (pss_cons (ps_expr (pe_f (c_need_alike T) hr (pa_cons (pv 0) (pa_cons (pv 1) pa_nil))))
      (pss_one (ps_expr (pe_f (c_need_weights T) hr (pa_cons (pe_fld (pv 0) rfl) (pa_cons (pv 2) pa_nil)))))), ?_⟩
    refine ⟨_, rfl, _, rfl, R, p1, p2, nm, r1, r2, rfl, wi, hF, hG, fun H1 k1 => ?_⟩
    refine ⟨_, rfl, p1, _, dx, _, _, rfl, k1.at g1, T.c_Family, T.n_Family_names, rfl, _, rfl, R, n1, d, nm, wt, rfl, k1.w, k1.at hn1, k1.at hd, hF.l8, fun H2 k2 => ?_⟩
    exact q H2 (k1.trans k2)
def spTotal : Sp := fun vs H Q _ => ∃ (R : Reg) (d t : Addr) (nm A : List Str) (wt : Str → Int), vs = [.ref d, .ref t] ∧ WInv R H ∧ H d = some (.dK (wtD nm wt)) ∧ H t = some (.tup (A.map V.str)) ∧ (∀ x, x ∈ A → x ∈ nm) ∧ A.length ≤ 60 ∧ ∀ H', Kp R H H' → Q (.int (A.map wt).sum) H'
abbrev N_total_weight : List Str := ["weights", "lot", "thing"]
theorem sc_total_weight : FnScope N_total_weight ["weights", "lot"] (defScope s_total_weight) := ⟨rfl, rfl, rfl, by decide +kernel, rfl, by decide +kernel, by decide +kernel⟩
theorem c_total_weight (T : Txt K mg) : Call P w K mg base 1 "total_weight" ["weights", "lot"] spTotal := by
  refine mkCall T.d_total_weight sc_total_weight (fun _ _ _ _ _ _ us hl => match us, hl with | [_, _], _ => rfl) (fun vs H Q E h => ?_) (fun cdv A outer s H vs Q E hr h => ?_)
  · obtain ⟨R, d, t, nm, As, wt, rfl, _⟩ := h; rfl
  · obtain ⟨R, d, t, nm, As, wt, rfl, wi, hd, ht, sub, l60, q⟩ := h
    have hu := hu_of hr
    refine ⟨_, (pss_one (ps_ret (pe_callB (cr_sum rfl) (by rfl) T.f_sum bt_sum (pa_cons (pe_lc (own := [("thing", 2)]) (by rfl) sc_total_weight.nd (pi_tup (pv 1)) (blkOk_by (own := [("thing", 2)]) (N := N_total_weight) (sc := defScope s_total_weight) (by decide +kernel)) (fun _ _ _ _ _ => (pg_name (i := 2) sc_total_weight.nd rfl (by first | exact Or.inl rfl | exact Or.inr rfl))) (fun _ _ _ _ _ => pts_nil) (fun _ _ _ _ _ => (pe_dget hu (pv 0) (pv 2) (fun _ _ => rfl)))) pa_nil)))), ?_⟩
    refine ⟨_, rfl, t, rfl, ⟨_, SqT.of ht⟩, fun D hD => ?_⟩
    refine lcA hD (src_tup (c := V.str) (its := As) ht) wi (by omega) (fun x => .int (wt x)) (fun _ => rfl) (fun x hx H1 k Q' q' => ?_) fun H1 k e => ?_
    · exact ⟨_, rfl, _, rfl, d, _, rfl, wt_get (k.at hd) (sub x hx), q' H1 (Kp.refl k.w)⟩
    · exact ⟨D, As.map wt, rfl, SqL.of (by rw [e, List.map_map]; rfl), q H1 k⟩
def spOut (K : PySem.W.Frag) : Sp := fun vs H Q _ => ∃ (R : Reg) (p t : Addr) (nm A : List Str) (r : List Str → Nat), vs = [.ref p, .ref t] ∧ WInv R H ∧ FamS K R H p nm r ∧ H t = some (.tup (A.map V.str)) ∧
  ∀ H' u, Kp R H H' → H u = none → H' u = some (.tup ((les nm A).map V.str)) → Q (.ref u) H'
abbrev N_outer : List Str := ["family", "lot"]
theorem sc_outer : FnScope N_outer ["family", "lot"] (defScope s_outer) := ⟨rfl, rfl, rfl, by decide +kernel, rfl, by decide +kernel, by decide +kernel⟩
theorem c_outer (T : Txt K mg) : Call P w K mg base 2 "outer" ["family", "lot"] (spOut K) := by
  refine mkCall T.d_outer sc_outer (fun _ _ _ _ _ _ us hl => match us, hl with | [_, _], _ => rfl) (fun vs H Q E h => ?_) (fun cdv A outer s H vs Q E hr h => ?_)
  · obtain ⟨R, p, t, nm, As, r, rfl, _⟩ := h; rfl
  · obtain ⟨R, p, t, nm, As, r, rfl, wi, hF, ht, q⟩ := h
    obtain ⟨dx, a, o, d, g, ha⟩ := hF.nmA
    have l8 := hF.l8
    refine ⟨_, (pss_one (ps_ret (pe_f (c_less T) hr (pa_cons (pe_fld (pv 0) rfl) (pa_cons (pv 1) pa_nil))))), ?_⟩
    refine ⟨_, rfl, p, _, dx, _, _, rfl, g, T.c_Family, T.n_Family_names, rfl, _, rfl, ?_⟩
    exact ⟨R, a, t, nm, As, rfl, wi, ha, .inl ht, by omega, fun H1 e k1 ne he => q H1 e k1 ne he⟩
def spEnts (K : PySem.W.Frag) : Sp := fun vs H Q _ => ∃ (R : Reg) (p t : Addr) (nm A : List Str) (r : List Str → Nat), vs = [.ref p, .ref t] ∧ WInv R H ∧ FamS K R H p nm r ∧ H t = some (.tup (A.map V.str)) ∧ Lot nm A ∧
  ∀ H' l, Kp R H H' → H l = none → H' l = some (.lst ((ents r nm A).map V.str)) → Q (.ref l) H'
abbrev N_entries : List Str := ["family", "lot", "thing"]
theorem sc_entries : FnScope N_entries ["family", "lot"] (defScope s_entries) := ⟨rfl, rfl, rfl, by decide +kernel, rfl, by decide +kernel, by decide +kernel⟩
theorem c_entries (T : Txt K mg) : Call P w K mg base 7 "entries" ["family", "lot"] (spEnts K) := by
  obtain ⟨fr, F_c_Family_rank_of, b_c_Family_rank_of⟩ := (c_rank_of (P := P) (w := w) (base := base) T).ex
  refine mkCall T.d_entries sc_entries (fun _ _ _ _ _ _ us hl => match us, hl with | [_, _], _ => rfl) (fun vs H Q E h => ?_) (fun cdv A outer s H vs Q E hr h => ?_)
  · obtain ⟨R, p, t, nm, As, r, rfl, _⟩ := h; rfl
  · obtain ⟨R, p, t, nm, As, r, rfl, wi, hF, ht, hA, q⟩ := h
    obtain ⟨dx, a, o, d, g, ha⟩ := hF.nmA
    have l8 := hF.l8
    have lA := lot_le hF.ss hA
    refine ⟨_, (pss_one (ps_ret (pe_lc (own := [("thing", 2)]) (by rfl) sc_entries.nd (pi_tup (pe_f (c_outer T) hr (pa_cons (pv 0) (pa_cons (pv 1) pa_nil)))) (blkOk_by (own := [("thing", 2)]) (N := N_entries) (sc := defScope s_entries) (by decide +kernel)) (fun _ _ _ _ _ => (pg_name (i := 2) sc_entries.nd rfl (by first | exact Or.inl rfl | exact Or.inr rfl))) (fun _ _ _ _ _ => (pts_one (pt_cmpR op_gt (pe_meth (pv 0) T.c_Family T.h_Family_rank_of F_c_Family_rank_of (hr.mono (by decide)) b_c_Family_rank_of .nil pass0 (pa_cons (pe_f (c_with_thing T) hr (pa_cons (pv 1) (pa_cons (pv 2) pa_nil))) pa_nil)) (pe_callB (show CallR _ _ (fun xs H Q => ∃ p ys, xs = [.ref p] ∧ (SqL K H p ys ∨ SqT K H p ys) ∧ Q (.int ys.length) H) from call_len_seq) (by rfl) T.f_len bt_len (pa_cons (pv 1) pa_nil)) (nomark _)))) (fun _ _ _ _ _ => (pv 2))))), ?_⟩
    refine ⟨_, rfl, _, rfl, R, p, t, nm, As, r, rfl, wi, hF, ht, fun H1 e k1 ne he => ?_⟩
    refine ⟨e, rfl, ⟨_, SqT.of he⟩, fun D hD => ?_⟩
    refine lcN hD (src_tup (c := V.str) (its := les nm As) he) k1.w (Nat.le_trans (List.length_filter_le _ _) (Nat.le_trans l8 (by decide))) (fun x => decide (As.length < r (wth As x))) V.str (fun _ => rfl) (fun x hx H2 k2 QT q' => ?_)
      (fun x hx _ H2 k2 Q' q' => ⟨_, rfl, q' H2 (Kp.refl k2.w)⟩) fun H2 k2 e2 => ?_
    · have hx' := mem_les.mp hx
      have k12 := k1.trans k2
      refine ⟨_, rfl, p, dx, _, rfl, k12.at g, rfl, _, rfl, _, rfl, R, t, As, x, rfl, k2.w, k12.at ht, by omega, fun H3 u k3 nu hu3 => ?_⟩
      refine ⟨R, p, u, nm, _, r, rfl, k3.w, hF.mono (k12.trans k3), hu3, lot_wth hF.ss hA hx'.1 hx'.2, fun H4 k4 => ?_⟩
      refine ⟨_, rfl, t, _, rfl, .inr (SqT.of ((k12.trans (k3.trans k4)).at ht)), _, _, rfl, rfl, _, rfl, ?_⟩
      rw [List.length_map]
      have e' : decide (((As.length : Nat) : Int) < ((r (wth As x) : Nat) : Int)) = decide (As.length < r (wth As x)) := by
        by_cases h : As.length < r (wth As x)
        · rw [decide_eq_true h, decide_eq_true (by omega)]
        · rw [decide_eq_false h, decide_eq_false (by omega)]
      rw [e']
      exact q' H4 (k3.trans k4)
    · exact q _ D (k1.trans k2) (k1.fr hD) e2

/-! ### trades -/
/-- a pair of texts as a value -/
def pairV (H : Hp) (v : V) (q : Str × Str) : Prop := ∃ t, v = .ref t ∧ H t = some (.tup [.str q.1, .str q.2])
theorem pairV.mono {R : Reg} {H H' : Hp} (k : Kp R H H') {v : V} {x : Str × Str} (h : pairV H v x) : pairV H' v x := by
  obtain ⟨t, e, h1⟩ := h
  exact ⟨t, e, k.at h1⟩
theorem pairV.updl {H : Hp} {l : Addr} {xs ys : List V} (hl : H l = some (.lst xs)) {v : V} {q : Str × Str} (h : pairV H v q) : pairV (upd H l (.lst ys)) v q := by
  obtain ⟨t, e, h1⟩ := h
  exact ⟨t, e, by rw [upd_ne fun z => by rw [z, hl] at h1; cases h1]; exact h1⟩
def spTrades (K : PySem.W.Frag) : Sp := fun vs H Q _ => ∃ (R : Reg) (p t : Addr) (nm A : List Str) (r : List Str → Nat), vs = [.ref p, .ref t] ∧ WInv R H ∧ FamS K R H p nm r ∧ H t = some (.tup (A.map V.str)) ∧ Lot nm A ∧
  ∀ H' l ps, Kp R H H' → H l = none → H' l = some (.lst ps) → Paired (pairV H') ps (trd r nm A) → Q (.ref l) H'
abbrev N_trades : List Str := ["family", "lot", "found", "gone", "rest", "goals", "thing"]
theorem sc_trades : FnScope N_trades ["family", "lot"] (defScope s_trades) := ⟨rfl, rfl, rfl, by decide +kernel, rfl, by decide +kernel, by decide +kernel⟩
theorem trd_len {r : List Str → Nat} {nm A : List Str} (lA : A.length ≤ 8) (l8 : nm.length ≤ 8) : (trd r nm A).length ≤ 64 := by
  have h : ∀ B : List Str, (B.flatMap fun y => (goals r nm A y).map fun x => (y, x)).length ≤ B.length * 8 := by
    intro B
    induction B with
    | nil => exact Nat.zero_le _
    | cons b B ih =>
      have gl : (goals r nm A b).length ≤ 8 := Nat.le_trans (List.length_filter_le _ _) (Nat.le_trans (List.length_filter_le _ _) l8)
      rw [List.flatMap_cons, List.length_append, List.length_map, List.length_cons]
      omega
  have := h A
  show (A.flatMap fun y => (goals r nm A y).map fun x => (y, x)).length ≤ 64
  omega
theorem c_trades (T : Txt K mg) : Call P w K mg base 7 "trades" ["family", "lot"] (spTrades K) := by
  obtain ⟨fr, F_c_Family_rank_of, b_c_Family_rank_of⟩ := (c_rank_of (P := P) (w := w) (base := base) T).ex
  refine mkCall T.d_trades sc_trades (fun _ _ _ _ _ _ us hl => match us, hl with | [_, _], _ => rfl) (fun vs H Q E h => ?_) (fun cdv A outer s H vs Q E hr h => ?_)
  · obtain ⟨R, p, t, nm, As, r, rfl, _⟩ := h; rfl
  · obtain ⟨R, p, t, nm, As, r, rfl, wi, hF, ht, hA, q⟩ := h
    obtain ⟨dx, a, o, d, g, ha⟩ := hF.nmA
    have l8 := hF.l8
    have lA := lot_le hF.ss hA
    refine ⟨_, (pss_cons (ps_set (i := 2) sc_trades.nd rfl (Or.inl rfl) (pe_lst pa_nil))
      (pss_cons (ps_for PassesOwn.never rfl (pi_tup (pv 1)) (pg_name (i := 3) sc_trades.nd rfl (by first | exact Or.inl rfl | exact Or.inr rfl)) (pss_cons (ps_set (i := 4) sc_trades.nd rfl (Or.inr rfl) (pe_f (c_less T) hr (pa_cons (pv 1) (pa_cons (pe_tup (pa_cons (pv 3) pa_nil)) pa_nil))))
      (pss_cons (ps_setLc (i := 5) (own := [("thing", 6)]) (by rfl) sc_trades.nd rfl rfl (sw_true rfl rfl rfl (by decide +kernel)) (pi_tup (pe_f (c_outer T) hr (pa_cons (pv 0) (pa_cons (pv 1) pa_nil)))) (blkOk_by (own := [("thing", 6)]) (N := N_trades) (sc := defScope s_trades) (by decide +kernel)) (fun _ _ _ _ _ => (pg_name (i := 6) sc_trades.nd rfl (by first | exact Or.inl rfl | exact Or.inr rfl))) (fun _ _ _ _ _ => (pts_one (pt_cmpR op_eq (pe_meth (pv 0) T.c_Family T.h_Family_rank_of F_c_Family_rank_of (hr.mono (by decide)) b_c_Family_rank_of .nil pass0 (pa_cons (pe_f (c_with_thing T) hr (pa_cons (pv 4) (pa_cons (pv 6) pa_nil))) pa_nil)) (pe_callB (show CallR _ _ (fun xs H Q => ∃ p ys, xs = [.ref p] ∧ (SqL K H p ys ∨ SqT K H p ys) ∧ Q (.int ys.length) H) from call_len_seq) (by rfl) T.f_len bt_len (pa_cons (pv 1) pa_nil)) (nomark _)))) (fun _ _ _ _ _ => (pv 6)))
      (pss_one (ps_expr (pe_bm PySem.F.plainAttrs_list PySem.F.slot_list_extend PySem.F.type_list_extend mt_extend (pv 2) (pa_cons (pe_lc (own := [("thing", 6)]) (by rfl) sc_trades.nd (pi_list (pv 5)) (blkOk_by (own := [("thing", 6)]) (N := N_trades) (sc := defScope s_trades) (by decide +kernel)) (fun _ _ _ _ _ => (pg_name (i := 6) sc_trades.nd rfl (by first | exact Or.inl rfl | exact Or.inr rfl))) (fun _ _ _ _ _ => pts_nil) (fun _ _ _ _ _ => (pe_tup (pa_cons (pv 3) (pa_cons (pv 6) pa_nil))))) pa_nil)))))))
      (pss_one (ps_ret (pv 2))))), ?_⟩
    refine ⟨Nat.zero_le _, fun l nl => ?_⟩
    have k1 := Kp.upd wi nl (o := .lst [])
    refine ⟨_, rfl, t, rfl, ⟨_, SqT.of (k1.at ht)⟩, ?_⟩
    refine forG (G := fun H4 => H4 t = some (.tup (As.map V.str))) (src_tupG (c := V.str) (its := As) fun _ g => g)
      (fun i σ H4 => ∃ v3 v4 v5 v6 ps, σ = [some (.ref p), some (.ref t), some (.ref l), v3, v4, v5, v6] ∧ Kp R H H4 ∧ H4 l = some (.lst ps) ∧ ps.length ≤ i * 8 ∧ Paired (pairV H4) ps ((As.take i).flatMap fun y => (goals r nm As y).map fun x => (y, x)))
      (fun i σ H4 ⟨_, _, _, _, _, _, k, _⟩ => k.at ht) ⟨none, none, none, none, [], rfl, k1, upd_same, Nat.zero_le _, .nil⟩ ?_ ?_
    · rintro i y σ H4 hy ⟨v3, v4, v5, v6, ps, rfl, k4, hl4, lps, pr⟩
      have hyA : y ∈ As := List.mem_of_getElem? hy
      have hi : i < As.length := (List.getElem?_eq_some_iff.mp hy).1
      -- rest = less(lot, (gone,))
      refine ⟨_, rfl, _, rfl, by show 1 ≤ sizeLine; decide, fun b nb => ?_⟩
      have kb := Kp.upd k4.w nb (o := .tup [V.str y])
      refine ⟨R, t, b, As, [y], rfl, kb.w, (k4.trans kb).at ht, .inl upd_same, by omega, fun H5 e k5 ne he => ?_⟩
      have k45 := kb.trans k5
      have kH5 := k4.trans k45
      -- goals
      refine ⟨_, rfl, _, rfl, R, p, t, nm, As, r, rfl, k5.w, hF.mono kH5, kH5.at ht, fun H6 f k6 nf hf => ?_⟩
      have kH6 := kH5.trans k6
      refine ⟨f, rfl, ⟨_, SqT.of hf⟩, fun D hD => ?_⟩
      refine lcN hD (src_tup (c := V.str) (its := les nm As) hf) k6.w (Nat.le_trans (List.length_filter_le _ _) (Nat.le_trans l8 (by decide))) (fun x => decide (r (wth (les As [y]) x) = As.length)) V.str (fun _ => rfl) (fun x hx H7 k7 QT q' => ?_)
        (fun x hx _ H7 k7 Q' q' => ⟨_, rfl, q' H7 (Kp.refl k7.w)⟩) fun H7 k7 e7 => ?_
      · have hx' := mem_les.mp hx
        have kH7 := kH6.trans k7
        refine ⟨_, rfl, p, dx, _, rfl, kH7.at g, rfl, _, rfl, _, rfl, R, e, les As [y], x, rfl, k7.w, (k6.trans k7).at he, Nat.le_trans (List.length_filter_le _ _) (by omega), fun H8 u k8 nu hu8 => ?_⟩
        refine ⟨R, p, u, nm, _, r, rfl, k8.w, hF.mono (kH7.trans k8), hu8, lot_wth hF.ss (lot_les hF.ss hA [y]) hx'.1 (fun z => hx'.2 (mem_les.mp z).1), fun H9 k9 => ?_⟩
        refine ⟨_, rfl, t, _, rfl, .inr (SqT.of ((kH7.trans (k8.trans k9)).at ht)), rfl, _, rfl, ?_⟩
        rw [List.length_map]
        rw [dec_int]
        exact q' H9 (k8.trans k9)
      · have e7' : H7 D = some (.lst ((goals r nm As y).map V.str)) := e7
        have kH7 := kH6.trans k7
        have k47 := k45.trans (k6.trans k7)
        have gl : (goals r nm As y).length ≤ 8 := Nat.le_trans (List.length_filter_le _ _) (Nat.le_trans (List.length_filter_le _ _) l8)
        refine ⟨_, rfl, .inl ⟨rfl, _, SqL.of (k47.at hl4)⟩, ?_⟩
        refine ⟨_, rfl, D, rfl, ⟨_, SqL.of e7'⟩, fun D2 hD2 => ?_⟩
        refine lcG hD2 (src_lst (c := V.str) (its := goals r nm As y) e7') kH7.w (by omega) (fun x v H => pairV H v (y, x)) (fun _ => true) (fun x => _) (fun x v Ha Hb kk h => h.mono kk) (fun x v Ha xs ys hx h => h.updl hx) (fun x => ?_) (fun x hx H8 k8 QG qg => qg) (fun x hx H8 k8 QT qt => qt H8 (Kp.refl k8.w)) (fun x hx hT xs H8 k8 hDD Q' q' => ?_) fun H8 ys k8 e8 pr8 => ?_
        · rfl
        · refine ⟨_, rfl, _, rfl, by show 2 ≤ sizeLine; decide, fun z nz => ?_⟩
          exact q' _ _ (Kp.upd k8.w nz) ⟨z, rfl, upd_same⟩
        · rw [List.filter_eq_self.mpr (fun _ _ => rfl)] at pr8
          have k48 := k47.trans k8
          have ly : ys.length ≤ 8 := by rw [← pr8.length]; exact gl
          refine ⟨l, D2, ps, ys, rfl, rfl, k48.at hl4, e8, Nat.le_trans (show _ ≤ 8 * 8 + 8 from Nat.add_le_add (Nat.le_trans lps (by omega)) ly) (by decide), ?_⟩
          refine ⟨_, _, _, _, ps ++ ys, rfl, (k4.trans k48).mut nl, upd_same, by rw [List.length_append]; omega, ?_⟩
          rw [take_succ_at hy, List.flatMap_append]
          refine paired_app (L2.Paired.mapP pr fun v z h => (h.mono k48).updl (k48.at hl4)) ?_
          have aux : ∀ {zs : List Str} {vs : List V}, Paired (fun x v => pairV H8 v (y, x)) zs vs → Paired (pairV (upd H8 l (.lst (ps ++ ys)))) vs (zs.map fun x => (y, x)) := by
            intro zs vs pp
            induction pp with
            | nil => exact .nil
            | cons r t ih => exact .cons (r.updl (k48.at hl4)) ih
          have := aux pr8
          simpa using this
    · rintro σ H4 ⟨v3, v4, v5, v6, ps, rfl, k4, hl4, lps, pr⟩
      rw [List.take_length] at pr
      exact ⟨_, rfl, q H4 l ps k4 nl hl4 pr⟩
def spSteps (K : PySem.W.Frag) : Sp := fun vs H Q _ => ∃ (R : Reg) (p1 p2 t : Addr) (nm A : List Str) (r1 r2 : List Str → Nat), vs = [.ref p1, .ref p2, .ref t] ∧ WInv R H ∧ FamS K R H p1 nm r1 ∧ FamS K R H p2 nm r2 ∧ H t = some (.tup (A.map V.str)) ∧ Lot nm A ∧
  ∀ H' l ps, Kp R H H' → H l = none → H' l = some (.lst ps) → Paired (pairV H') ps (stp r1 r2 nm A) → Q (.ref l) H'
abbrev N_steps_between : List Str := ["one", "other", "lot", "gone", "thing"]
theorem sc_steps_between : FnScope N_steps_between ["one", "other", "lot"] (defScope s_steps_between) := ⟨rfl, rfl, rfl, by decide +kernel, rfl, by decide +kernel, by decide +kernel⟩
theorem c_steps_between (T : Txt K mg) : Call P w K mg base 8 "steps_between" ["one", "other", "lot"] (spSteps K) := by
  refine mkCall T.d_steps_between sc_steps_between (fun _ _ _ _ _ _ us hl => match us, hl with | [_, _, _], _ => rfl) (fun vs H Q E h => ?_) (fun cdv A outer s H vs Q E hr h => ?_)
  · obtain ⟨R, p1, p2, t, nm, As, r1, r2, rfl, _⟩ := h; rfl
  · obtain ⟨R, p1, p2, t, nm, As, r1, r2, rfl, wi, hF, hG, ht, hA, q⟩ := h
    have l8 := hF.l8
    have lA := lot_le hF.ss hA
    refine ⟨_, (pss_one (ps_ret (pe_op op_cat (pe_f (c_trades T) hr (pa_cons (pv 0) (pa_cons (pv 2) pa_nil))) (pe_lc (own := [("gone", 3), ("thing", 4)]) (by rfl) sc_steps_between.nd (pi_list (pe_f (c_trades T) hr (pa_cons (pv 1) (pa_cons (pv 2) pa_nil)))) (blkOk_by (own := [("gone", 3), ("thing", 4)]) (N := N_steps_between) (sc := defScope s_steps_between) (by decide +kernel)) (fun _ _ _ _ _ => (show PG _ _ (gTup K 2 _) from pg_tup (by rfl) (pgs_cons (pg_name (i := 3) sc_steps_between.nd rfl (by first | exact Or.inl rfl | exact Or.inr rfl)) (pgs_cons (pg_name (i := 4) sc_steps_between.nd rfl (by first | exact Or.inl rfl | exact Or.inr rfl)) pgs_nil)))) (fun _ _ _ _ _ => pts_nil) (fun _ _ _ _ _ => (pe_tup (pa_cons (pv 4) (pa_cons (pv 3) pa_nil)))))))), ?_⟩
    refine ⟨_, rfl, _, rfl, R, p1, t, nm, As, r1, rfl, wi, hF, ht, hA, fun H1 l ps k1 nl hl pr => ?_⟩
    refine ⟨_, rfl, _, rfl, R, p2, t, nm, As, r2, rfl, k1.w, hG.mono k1, k1.at ht, hA, fun H2 l2 ps2 k2 nl2 hl2 pr2 => ?_⟩
    obtain ⟨its, rfl, ei, hits⟩ := paired_zip pr2
    have t1 := trd_len (r := r1) (nm := nm) (A := As) (Nat.le_trans lA l8) l8
    have t2 := trd_len (r := r2) (nm := nm) (A := As) (Nat.le_trans lA l8) l8
    have il : its.length ≤ 64 := by rw [ei, List.length_map] at t2; exact t2
    refine ⟨l2, rfl, ⟨_, SqL.of hl2⟩, fun D hD => ?_⟩
    refine lcG hD (src_lst (c := (·.1)) (its := its) hl2) k2.w (by omega) (fun x v H => pairV H v (x.2.2, x.2.1)) (fun _ => true) (fun x => [some (.ref p1), some (.ref p2), some (.ref t), some (.str x.2.1), some (.str x.2.2)]) (fun x v Ha Hb kk h => h.mono kk) (fun x v Ha xs ys hx h => h.updl hx) (fun x => ?_) (fun x hx H8 k8 QG qg => ?_) (fun x hx H8 k8 QT qt => qt H8 (Kp.refl k8.w)) (fun x hx hT xs H8 k8 hDD Q' q' => ?_) fun H8 ys k8 e8 pr8 => ?_
    · rfl
    · obtain ⟨tt, et, htt⟩ := hits x hx
      rw [et]
      exact ⟨tt, _, rfl, SqT.of (k8.at htt), rfl, _, _, rfl, _, _, rfl, rfl, qg⟩
    · refine ⟨_, rfl, _, rfl, by show 2 ≤ sizeLine; decide, fun z nz => ?_⟩
      exact q' _ _ (Kp.upd k8.w nz) ⟨z, rfl, upd_same⟩
    · rw [List.filter_eq_self.mpr (fun _ _ => rfl)] at pr8
      have k28 := k2.trans k8
      have l1 : ps.length ≤ 64 := by rw [pr.length]; exact t1
      have ly : ys.length ≤ 64 := by rw [← pr8.length]; exact il
      refine ⟨l, D, ps, ys, rfl, rfl, k28.at hl, e8, Nat.le_trans (Nat.add_le_add l1 ly) (by decide), fun z nz => ?_⟩
      have kz := Kp.upd k8.w nz (o := .lst (ps ++ ys))
      have kk := k28.trans kz
      refine q _ z _ (k1.trans kk) ((k1.trans k28).fr nz) upd_same (paired_app (L2.Paired.mapP pr fun v z h => h.mono kk) ?_)
      rw [ei, List.map_map]
      have aux : ∀ {zs : List (V × Str × Str)} {vs : List V}, Paired (fun x v => pairV H8 v (x.2.2, x.2.1)) zs vs → Paired (pairV (upd H8 z (.lst (ps ++ ys)))) vs (zs.map fun x => (x.2.2, x.2.1)) := by
        intro zs vs pp
        induction pp with
        | nil => exact .nil
        | cons r t ih => exact .cons (r.mono kz) ih
      exact aux pr8
end
end Bw
set_option Elab.async false
set_option maxHeartbeats 4000000
set_option linter.all false
/-! labels by rounds for two families -/
namespace Bf
variable {α : Type} [DecidableEq α]
section
variable (r1 r2 : List α → Nat) (E I : List α) (w : α → Int)
def bsrc : α → Prop := fun v => v ∈ E ∧ v ∉ I ∧ Ind r1 (v :: I)
def bed : α → α → Prop := fun u v => (u ∈ I ∧ v ∈ E ∧ v ∉ I ∧ Ex r1 I u v) ∨ (u ∈ E ∧ u ∉ I ∧ v ∈ I ∧ Ex r2 I v u)
def bcst : α → Int := fun v => if v ∈ I then w v else - w v
end
section
variable {r1 r2 : List α → Nat} {E I : List α} {w : α → Int}
theorem bf_start {src : List α} (hs : ∀ v, v ∈ src ↔ bsrc r1 E I v) :
    BFInv (bsrc r1 E I) (bed r1 r2 E I) E (bcst I w) ⟨fun v => if v ∈ src then some (- w v, 1) else none, fun v => if v ∈ src then some none else none⟩ ∧
    ∀ p, Wk (bsrc r1 E I) (bed r1 r2 E I) p → p.length ≤ 1 → Told (bcst I w) ⟨fun v => if v ∈ src then some (- w v, 1) else none, fun v => if v ∈ src then some none else none⟩ p := by
  have hc : ∀ v, v ∈ src → bcst I w v = - w v := fun v hv => if_neg ((hs v).mp hv).2.1
  refine ⟨⟨fun v k hv => ?_, fun v => ?_, fun v hv => ?_, fun v u hv => ?_⟩, fun p hp hl v hv => ?_⟩
  · simp only at hv
    by_cases h : v ∈ src
    · rw [if_pos h] at hv
      cases hv
      refine ⟨[], (hs v).mp h, ?_, fun x hx => ?_⟩
      · unfold cst
        rw [wt_cons, wt_nil, hc v h]
        simp
      · rw [List.mem_singleton.mp hx]; exact ((hs v).mp h).1
    · rw [if_neg h] at hv; cases hv
  · simp only
    by_cases h : v ∈ src
    · rw [if_pos h, if_pos h]; simp
    · rw [if_neg h, if_neg h]; simp
  · simp only at hv ⊢
    by_cases h : v ∈ src
    · rw [if_pos h, hc v h]; exact ⟨(hs v).mp h, rfl⟩
    · rw [if_neg h] at hv; cases hv
  · simp only at hv
    by_cases h : v ∈ src
    · rw [if_pos h] at hv; cases hv
    · rw [if_neg h] at hv; cases hv
  · match p, hp, hl with
    | [], hp, _ => exact hp.elim
    | [x], hp, _ =>
      have e : x = v := Option.some.inj hv
      subst e
      have h : x ∈ src := (hs x).mpr hp
      refine ⟨(- w x, 1), if_pos h, ?_⟩
      unfold cst kle
      rw [wt_cons, wt_nil, hc x h]
      simp
    | x :: y :: p, _, hl => simp only [List.length_cons] at hl; omega
/-- behind all rounds -/
theorem bf_fin (sI : ∀ x, x ∈ I → x ∈ E) (X : ExtW r1 r2 E w I) {s : BF α} (B : BFInv (bsrc r1 E I) (bed r1 r2 E I) E (bcst I w) s) (T : ∀ p, Wk (bsrc r1 E I) (bed r1 r2 E I) p → p.length ≤ E.length → Told (bcst I w) s p) :
    Fin r1 r2 E I w s.cm (fun v => (s.cs v).getD (0, 0)) := by
  obtain ⟨w1, w2, e, a1, a2⟩ := X
  have inE : ∀ u v, bed r1 r2 E I u v → v ∈ E := fun u v h => h.elim (fun q => q.2.1) fun q => sI v q.2.2.1
  have step := bf_end (src := bsrc r1 E I) (ed := bed r1 r2 E I) (φ := fun v => if v ∈ I then w1 v else - w2 v) (fun u v h => by
    show (if v ∈ I then w1 v else - w2 v) - (if u ∈ I then w1 u else - w2 u) ≤ bcst I w v
    unfold bcst
    rcases h with ⟨h1, h2, h3, h4⟩ | ⟨h1, h2, h3, h4⟩
    · rw [if_neg h3, if_pos h1, if_neg h3]
      have := a1 u h1 v h2 h3 h4
      have := e v
      omega
    · rw [if_pos h3, if_neg h2, if_pos h3]
      have := a2 v h3 u h1 h2 h4
      have := e v
      omega) inE B T
  have get : ∀ v, s.cm v ≠ none → ∃ k, s.cs v = some k := fun v hv => by
    cases h : s.cs v with
    | none => exact absurd ((B.dom v).mpr h) hv
    | some k => exact ⟨k, rfl⟩
  have ne : ∀ v k, s.cs v = some k → s.cm v ≠ none := fun v k h q => by
    rw [(B.dom v).mp q] at h; cases h
  have eqs : ∀ v u, s.cm v = some (some u) → bed r1 r2 E I u v ∧ s.cm u ≠ none ∧ ∃ ku, s.cs u = some ku ∧ s.cs v = some (ku.1 + bcst I w v, ku.2 + 1) := fun v u h => by
    obtain ⟨h0, ku, kv, h1, h2, h3⟩ := B.cam v u h
    obtain ⟨k', h4, h5⟩ := step u v h0 ku h1
    rw [h2] at h4
    cases h4
    exact ⟨h0, ne u ku h1, ku, h1, by rw [h2, kle_anti h5 h3]⟩
  constructor
  · constructor
    · intro x hx hxi hf
      obtain ⟨k, h1, h2⟩ := T [x] ⟨hx, hxi, hf⟩ (by
        cases E with
        | nil => cases hx
        | cons a E => simp) x rfl
      refine ⟨ne x k h1, ?_⟩
      show kle ((s.cs x).getD (0, 0)) _
      rw [h1]
      have : cst (bcst I w) [x] = (- w x, 1) := by
        unfold cst bcst
        rw [wt_cons, wt_nil, if_neg hxi]
        simp
      rw [this] at h2
      exact h2
    · intro y hy x hx hxi ex hr
      obtain ⟨k, hk⟩ := get y hr
      obtain ⟨k', h1, h2⟩ := step y x (Or.inl ⟨hy, hx, hxi, ex⟩) k hk
      refine ⟨ne x k' h1, ?_⟩
      show kle ((s.cs x).getD (0, 0)) (((s.cs y).getD (0, 0)).1 - w x, ((s.cs y).getD (0, 0)).2 + 1)
      rw [h1, hk]
      have : bcst I w x = - w x := if_neg hxi
      rw [this] at h2
      exact h2
    · intro x hx hxi y hy ex hr
      obtain ⟨k, hk⟩ := get x hr
      obtain ⟨k', h1, h2⟩ := step x y (Or.inr ⟨hx, hxi, hy, ex⟩) k hk
      refine ⟨ne y k' h1, ?_⟩
      show kle ((s.cs y).getD (0, 0)) (((s.cs x).getD (0, 0)).1 + w y, ((s.cs x).getD (0, 0)).2 + 1)
      rw [h1, hk]
      have : bcst I w y = w y := if_pos hy
      rw [this] at h2
      exact h2
  · intro v hv
    obtain ⟨⟨a, b, c⟩, h2⟩ := B.beg v hv
    refine ⟨a, b, c, ?_⟩
    show (s.cs v).getD (0, 0) = _
    rw [h2]
    have : bcst I w v = - w v := if_neg b
    rw [this]; rfl
  · intro y x h hy
    obtain ⟨h0, h1, ku, h2, h3⟩ := eqs y x h
    rcases h0 with ⟨_, _, q, _⟩ | ⟨q1, q2, q3, q4⟩
    · exact absurd hy q
    · refine ⟨q1, q2, q4, h1, ?_⟩
      show (s.cs y).getD (0, 0) = (((s.cs x).getD (0, 0)).1 + w y, ((s.cs x).getD (0, 0)).2 + 1)
      rw [h2, h3]
      have : bcst I w y = w y := if_pos hy
      rw [this]; rfl
  · intro x y h hx
    obtain ⟨h0, h1, ku, h2, h3⟩ := eqs x y h
    rcases h0 with ⟨q1, q2, q3, q4⟩ | ⟨_, _, q3, _⟩
    · refine ⟨q2, q1, q4, h1, ?_⟩
      show (s.cs x).getD (0, 0) = (((s.cs y).getD (0, 0)).1 - w x, ((s.cs y).getD (0, 0)).2 + 1)
      rw [h2, h3]
      have : bcst I w x = - w x := if_neg hx
      rw [this]; rfl
    · exact absurd q3 hx
  · intro v hv
    obtain ⟨k, hk⟩ := get v hv
    obtain ⟨p, _, h2, _⟩ := B.wk v k hk
    show 1 ≤ ((s.cs v).getD (0, 0)).2
    rw [hk, ← h2]
    unfold cst
    rw [List.length_cons]
    show (1 : Int) ≤ ((p.length + 1 : Nat) : Int)
    omega
end
end Bf
set_option Elab.async false
set_option linter.all false
set_option maxRecDepth 100000
set_option maxHeartbeats 4000000
/-! len(family) -/
namespace Bw
open PySem PySem.Spec PyProof.Rows L2 Bt
section
variable {P : Program} {w : World} {K : PySem.W.Frag} {mg : Str → Option Value} {base : Heap}
def spFLen (K : PySem.W.Frag) : Sp := fun vs H Q _ => ∃ (R : Reg) (p : Addr) (nm : List Str) (r : List Str → Nat), vs = [.ref p] ∧ FamS K R H p nm r ∧ Q (.int nm.length) H
abbrev N_Family_len : List Str := ["self"]
theorem sc_Family_len : FnScope N_Family_len ["self"] (defScope s_Family_len) := ⟨rfl, rfl, rfl, by decide +kernel, rfl, by decide +kernel, by decide +kernel⟩
theorem c_Family_len (T : Txt K mg) : CallM P w K mg base 1 "Family" "__len__" ["self"] (spFLen K) := by
  refine mkMeth T.m_Family_len sc_Family_len (fun _ _ _ _ _ _ us hl => match us, hl with | [_], _ => rfl) (fun vs H Q E h => ?_) (fun cdv A outer s H vs Q E hr h => ?_)
  · obtain ⟨R, p, nm, r, rfl, _⟩ := h; rfl
  · obtain ⟨R, p, nm, r, rfl, hF, q⟩ := h
    obtain ⟨dx, a, o, d, h1, h2⟩ := hF.nmA
    refine ⟨_, (pss_one (ps_ret (pe_callB call_len_seq (by rfl) T.f_len bt_len (pa_cons (pe_fld (pv 0) rfl) pa_nil)))), ?_⟩
    refine ⟨_, rfl, p, _, dx, _, _, rfl, h1, T.c_Family, T.n_Family_names, rfl, a, _, rfl, .inr (SqT.of h2), ?_⟩
    rw [List.length_map]
    exact q
end
/-- a method of a class of the text, by its name -/
theorem cspec_fn {M : Model} {A : Around} {E : Value → Shared → Prop} {s : Shared} {K : PySem.W.Frag} {x C f : Addr} {ox : Obj} {od : Option Obj} {name : Str} {Q : Option Value → Shared → Prop} (X : K.In s.heap) (I : PySem.W.InstAt s.heap x ox C od)
    (hs : PySem.W.findIn K (.ref C) name = some (some (.ref f))) (hf : PySem.W.isFn K (.ref f) = true) (h : wpAny M A (call (.ref f) [.ref x]) (fun v => Q (some v)) E s) : wpAny M A (callSpecial? (.ref x) name []) Q E s := by
  have sp : PySem.W.Looks M s.heap (specialOf (.ref x) name) (some (.ref f)) := I.type.andThen (PySem.W.looks_findIn X hs)
  simp only [callSpecial?]
  refine wpAny_bind (PySem.W.Looks.here sp ?_)
  exact wpAny_holding (wpAny_bind ((PySem.W.bind_fn X _ (beq_iff_eq.mp hf)).here (wpAny_bind (wpAny_mono h (fun v s' h' => wpAny_pure h') fun _ _ h' => h'))))
theorem call_lenI {X : Cx} {k : Nat} (T : Txt X.K X.mg) (hr : Room k X.A) (hk : 3 ≤ k := by decide) : CallR X (.builtin "len") (fun xs H Q => ∃ (R : Reg) (p : Addr) (nm : List Str) (r : List Str → Nat), xs = [.ref p] ∧ FamS X.K R H p nm r ∧ Q (.int nm.length) H) := by
  rintro pins s σ H xs us Q I r ⟨R, p, nm, rk, rfl, hF, q⟩
  rw [Vals.ref1 r]
  obtain ⟨fd, F, hb⟩ := (c_Family_len (P := X.prog) (w := X.w) (base := X.base) T).ex
  obtain ⟨dx, a, o, d, g, hn⟩ := hF.nmA
  obtain ⟨mA, J, _⟩ := ins_get I.hok g
  obtain ⟨od, J, _⟩ := J.look
  have l8 := hF.l8
  have hroom : Room 1 X.A.in1 := (hr.mono (Nat.le_trans (by decide : 2 ≤ 3) hk)).in1
  have e0 : Env0 X.prog X.w X.K X.mg X.base X.A.in1 X.stack s H := by
    have e := I.env0
    exact ⟨e.frames, e.mod, e.bs, e.bsz, e.funs, e.frf, e.hok, e.bare⟩
  have hsp : spFLen X.K [V.ref p] H (fun v H' => v = V.int nm.length ∧ H' = H) E0 := ⟨R, p, nm, rk, rfl, hF, rfl, rfl⟩
  have hbd := hb s [.ref p] I.kIn rfl
  refine Calls.call_function_entry kind_len plain_len entry_len (args_len1 (Value.ref p)) (wpAny_bind (m := oneArg "len" ⟨[Value.ref p], []⟩) (wpAny_pure ?_))
  refine wpAny_bind (m := callSpecial? (.ref p) (PySem.Str.ofString "__len__")) (cspec_fn I.kIn J T.h_Family_len.at_ T.h_Family_len.fn ?_)
  refine wpAny_call (codeAny_mono (F.run X.A.in1 X.stack s H ⟨[.ref p], []⟩ [.ref p] [.ref p] _ E0 hroom e0 hbd (.cons rfl .nil) hsp) fun r s' hq => ?_)
  cases r with
  | error e => exact pass0 pins σ H s e s' I hq
  | ok fl =>
    cases fl with
    | ret w =>
      obtain ⟨z, H', I', rz, ez, eH⟩ := I.after hq
      subst ez
      subst eH
      obtain ⟨t, rfl⟩ := rz
      refine wpAny_bind (wpAny_holding (wpAny_pure (wpAny_bind (wpAny_letGo ?_))))
      show wpAny _ _ (if ((nm.length : Nat) : Int) < 0 then _ else _) _ _ _
      rw [if_neg (by omega)]
      show wpAny _ _ (if ((nm.length : Nat) : Int) ≥ 2 ^ 63 then _ else _) _ _ _
      rw [if_neg (by omega)]
      exact wpAny_bind (wpAny_mkInt (wpAny_pure ⟨_, rfl, .int nm.length, H', I'.tok _, ⟨_, rfl⟩, q⟩))
    | next => exact False.elim hq
    | brk => exact False.elim hq
    | cont => exact False.elim hq
end Bw
set_option Elab.async false
set_option linter.all false
set_option pp.maxSteps 300
set_option maxRecDepth 100000
set_option maxHeartbeats 4000000
/-! split.py: the best way -/
namespace Bm
open PySem PySem.Spec PyProof.Rows Bs Bf L2
theorem paired_dfn {S : Str → V → Prop} : ∀ {its : List Str} {kvs : List (Key × V)}, its.Nodup → Paired (fun i (kv : Key × V) => kv.1 = Sum.inr i ∧ S i kv.2) its kvs → ∃ g, kvs = DFn its g ∧ ∀ i, i ∈ its → S i (g i)
  | _, _, _, .nil => ⟨fun _ => .non, rfl, fun i hi => by cases hi⟩
  | i :: its, kv :: kvs, nd, .cons r t => by
    have nd' := List.nodup_cons.mp nd
    obtain ⟨g, e, h⟩ := paired_dfn nd'.2 t
    refine ⟨fun x => if x = i then kv.2 else g x, ?_, fun x hx => ?_⟩
    · show kv :: kvs = (Sum.inr i, if i = i then kv.2 else g i) :: DFn its (fun x => if x = i then kv.2 else g x)
      rw [if_pos rfl, e, ← r.1]
      congr 1
      exact dfn_congr fun x hx => (if_neg (show ¬ x = i from fun z => nd'.1 (z ▸ hx))).symm
    · show S x (if x = i then kv.2 else g x)
      by_cases z : x = i
      · rw [if_pos z, z]; exact r.2
      · rw [if_neg z]
        exact h x ((List.mem_cons.mp hx).resolve_left z)
/-- a key more -/
def kins (ks : List Str) (v : Str) : List Str := if v ∈ ks then ks else ks ++ [v]
theorem dfn_ins (ks : List Str) (g : Str → V) (v : Str) (u : V) : putK (DFn ks g) (Sum.inr v) u = DFn (kins ks v) fun y => if y = v then u else g y := by
  unfold kins
  by_cases h : v ∈ ks
  · rw [if_pos h, dfn_put h]
  · rw [if_neg h, putK_new _ (dfn_no h)]
    have e1 : DFn (ks ++ [v]) (fun y => if y = v then u else g y) = DFn ks (fun y => if y = v then u else g y) ++ DFn [v] (fun y => if y = v then u else g y) := List.map_append
    have e2 : DFn [v] (fun y => if y = v then u else g y) = [(Sum.inr v, u)] := by
      show [((Sum.inr v : Key), if v = v then u else g v)] = _
      rw [if_pos rfl]
    rw [e1, e2, dfn_congr (g' := g) fun y hy => if_neg (show ¬ y = v from fun z => h (z ▸ hy))]
theorem mem_kins {ks : List Str} {v x : Str} : x ∈ kins ks v ↔ x ∈ ks ∨ x = v := by
  unfold kins
  by_cases h : v ∈ ks
  · rw [if_pos h]
    exact ⟨Or.inl, fun q => q.elim id fun e => e ▸ h⟩
  · rw [if_neg h]; simp
theorem kins_nd {ks : List Str} {v : Str} (n : ks.Nodup) : (kins ks v).Nodup := by
  unfold kins
  by_cases h : v ∈ ks
  · rw [if_pos h]; exact n
  · rw [if_neg h, List.nodup_append]
    exact ⟨n, by simp, fun a ha b hb e => h (by rw [← List.mem_singleton.mp hb, ← e]; exact ha)⟩
section
variable {c : Str → Int} {s : BF Str} {u v : Str} {k o : Int × Int}
theorem relax_none (h : s.cs u = none) : relax c s (u, v) = s := by unfold relax; rw [show s.cs (u, v).1 = none from h]
theorem relax_put (h : s.cs u = some k) (h2 : ∀ o, s.cs v = some o → klt (k.1 + c v, k.2 + 1) o) :
    relax c s (u, v) = ⟨fun y => if y = v then some (k.1 + c v, k.2 + 1) else s.cs y, fun y => if y = v then some (some u) else s.cm y⟩ := by
  unfold relax
  rw [show s.cs (u, v).1 = some k from h]
  simp only
  cases h3 : s.cs v with
  | none => rfl
  | some o => simp only; rw [if_pos (h2 o h3)]
theorem relax_skip (h : s.cs u = some k) (h2 : s.cs v = some o) (h3 : ¬ klt (k.1 + c v, k.2 + 1) o) : relax c s (u, v) = s := by
  unfold relax
  rw [show s.cs (u, v).1 = some k from h]
  simp only
  rw [h2]
  simp only
  rw [if_neg h3]
end
theorem lex_klt (a b c d : Int) : HT.lexLt [a, b] [c, d] = decide (klt (a, b) (c, d)) := by
  rw [HT.lexLt_cons, HT.lexLt_cons, HT.lexLt_nil_nil]
  unfold klt
  simp only
  by_cases h : a = c
  · subst h
    rw [if_pos rfl]
    by_cases h2 : b = d
    · subst h2; simp
    · rw [if_neg h2]; simp
  · rw [if_neg h]
    simp [h]
end Bm
namespace Bw
open PySem PySem.Spec PyProof.Rows L2 Bt Bs Bm
section
variable {P : Program} {w : World} {K : PySem.W.Frag} {mg : Str → Option Value} {base : Heap}
/-- none, or a way by which the lot grows at the best price -/
def WayV (r1 r2 : List Str → Nat) (nm A : List Str) (wt : Str → Int) (H : Hp) (v : V) : Prop := (v = .non ∧ NoFwd r1 r2 nm A) ∨ ∃ q l, v = .ref q ∧ H q = some (.lst (l.map V.str)) ∧ Good r1 r2 nm A wt l
def spWay (K : PySem.W.Frag) : Sp := fun vs H Q _ => ∃ (R : Reg) (p1 p2 d t : Addr) (nm A : List Str) (r1 r2 : List Str → Nat) (wt : Str → Int), vs = [.ref p1, .ref p2, .ref d, .ref t] ∧ WInv R H ∧ FamS K R H p1 nm r1 ∧ FamS K R H p2 nm r2 ∧ H d = some (.dK (wtD nm wt)) ∧
  H t = some (.tup (A.map V.str)) ∧ Lot nm A ∧ Bf.Ind r1 A ∧ Bf.Ind r2 A ∧ Bf.ExtW r1 r2 nm wt A ∧ ∀ H' v, Kp R H H' → WayV r1 r2 nm A wt H' v → Q v H'
/-- labels that stand -/
def CostG (H : Hp) (ks : List Str) (g : Str → V) (s : Bf.BF Str) : Prop := ∀ v, v ∈ ks → ∃ e k, g v = .ref e ∧ H e = some (.tup [.int k.1, .int k.2]) ∧ s.cs v = some k
/-- all but two dicts that grow stands -/
def Ky (C D : Addr) (H H' : Hp) : Prop := ∀ b o, H b = some o → b ≠ C → b ≠ D → isT o = false → H' b = some o
theorem Ky.at {C D : Addr} {H H' : Hp} (h : Ky C D H H') {b : Addr} {o : HO} (e : H b = some o) (c : b ≠ C) (d : b ≠ D) (hT : isT o = false := by rfl) : H' b = some o := h b o e c d hT
theorem Ky.kp {C D : Addr} {H H1 H2 : Hp} {R : Reg} (h : Ky C D H H1) (k : Kp R H1 H2) : Ky C D H H2 := fun b o e c d hT => k.at (h b o e c d hT) hT
theorem Ky.upd1 {C D : Addr} {H H1 : Hp} {o : HO} (h : Ky C D H H1) : Ky C D H (L2.upd H1 C o) := fun b o' e c d hT => by rw [upd_ne c]; exact h b o' e c d hT
theorem Ky.upd2 {C D : Addr} {H H1 : Hp} {o : HO} (h : Ky C D H H1) : Ky C D H (L2.upd H1 D o) := fun b o' e c d hT => by rw [upd_ne d]; exact h b o' e c d hT
/-- what is reached, with its cost -/
def tripData (k : (Int × Int) × Str) : PyData := .tuple [.tuple [.int k.1.1, .int k.1.2], .str k.2]
theorem dp_trips {H : Hp} : ∀ {vs : List V} {ks : List ((Int × Int) × Str)}, Paired (tripV H) vs ks → DpAll K H vs (ks.map tripData)
  | _, _, .nil => .nil
  | _, _, .cons r t => by
    obtain ⟨a, b, rfl, h1, h2⟩ := r
    exact .cons (.tup (SqT.of h1) (.cons (.tup (SqT.of h2) (.cons (.int _) (.cons (.int _) .nil))) (.cons (.str _) .nil))) (dp_trips t)
theorem lay_trips : ∀ (ks : List ((Int × Int) × Str)), (∀ k, k ∈ ks → PyData.strOk k.2 = true) → PyData.canLayAll0 (ks.map tripData) = true
  | [], _ => by simp [PyData.canLayAll0]
  | k :: ks, h => by
    have h1 := h k List.mem_cons_self
    have h2 := lay_trips ks fun b hb => h b (List.mem_cons_of_mem _ hb)
    simp only [List.map_cons, tripData, PyData.canLayAll0, PyData.canLay0, h1, h2, Bool.and_true]
theorem depth_trips : ∀ (ks : List ((Int × Int) × Str)), PyData.depthAll (ks.map tripData) ≤ 4
  | [] => by simp [PyData.depthAll]
  | k :: ks => by
    have h2 := depth_trips ks
    simp only [List.map_cons, tripData, PyData.depthAll, PyData.depth]
    omega
theorem shaped_trips {ks : List ((Int × Int) × Str)} (h : ∀ k, k ∈ ks → PyData.strOk k.2 = true) : SeqAt.shaped (.list (ks.map tripData)) = true := by
  have h1 := depth_trips ks
  have h2 : PyData.depth (.list (ks.map tripData)) ≤ 64 := by simp only [PyData.depth]; omega
  show (PyData.canLay0 (.list (ks.map tripData)) && decide (PyData.depth (.list (ks.map tripData)) ≤ 64)) = true
  rw [Bool.and_eq_true]
  exact ⟨by simp only [PyData.canLay0]; exact lay_trips ks h, decide_eq_true h2⟩
theorem eq_nilT {H : Hp} {a b : Addr} {vs : List V} {ks : List ((Int × Int) × Str)} {Q : VK} (ha : H a = some (.lst vs)) (hz : Paired (tripV H) vs ks) (hb : H b = some (.lst [])) (ok : ∀ k, k ∈ ks → PyData.strOk k.2 = true) (q : Q (.bl (decide (ks = []))) H) :
    rEqD K (.ref a) (.ref b) H Q :=
  ⟨_, _, .lst (SqL.of ha) (dp_trips hz), .lst (SqL.of hb) .nil, shaped_trips ok, by decide, by
    cases ks with
    | nil => exact q
    | cons z zs => exact q⟩
abbrev N_best_way : List Str := ["one", "other", "weights", "lot", "ends", "costs", "came", "steps", "turn", "start", "goal", "price", "cost", "reached", "way", "thing"]
theorem sc_best_way : FnScope N_best_way ["one", "other", "weights", "lot"] (defScope s_best_way) := ⟨rfl, rfl, rfl, by decide +kernel, rfl, by decide +kernel, by decide +kernel⟩
theorem c_best_way (T : Txt K mg) : Call P w K mg base 9 "best_way" ["one", "other", "weights", "lot"] (spWay K) := by
  refine mkCall T.d_best_way sc_best_way (fun _ _ _ _ _ _ us hl => match us, hl with | [_, _, _, _], _ => rfl) (fun vs H Q E h => ?_) (fun cdv A outer s H vs Q E hr h => ?_)
  · obtain ⟨R, p1, p2, d, t, nm, As, r1, r2, wt, rfl, _⟩ := h; rfl
  · obtain ⟨R, p1, p2, d, t, nm, As, r1, r2, wt, rfl, wi, hF, hG, hd, ht, hA, i1, i2, hx, q⟩ := h
    have hu := hu_of hr
    have l8 := hF.l8
    have lA := lot_le hF.ss hA
    have sA : ∀ x, x ∈ As → x ∈ nm := fun x hx => hA.sub hx
    have ndA : As.Nodup := (hA.ss hF.ss).nodup
    have ndE : ∀ r, (ents r nm As).Nodup := fun r => (hF.ss.nodup.filter _).filter _
    have inE : ∀ r x, x ∈ ents r nm As → x ∈ nm := fun r x hx => (mem_les.mp (List.mem_filter.mp hx).1).1
    have lE : ∀ r, (ents r nm As).length ≤ 8 := fun r => Nat.le_trans (Bf.nodup_le (ndE r) (inE r)) l8
    refine ⟨_, (pss_cons (ps_set (i := 4) sc_best_way.nd rfl (Or.inl rfl) (pe_f (c_entries T) hr (pa_cons (pv 1) (pa_cons (pv 3) pa_nil))))
      (pss_cons (ps_set (i := 5) sc_best_way.nd rfl (Or.inr rfl) (pe_dc (own := [("thing", 15)]) (by rfl) sc_best_way.nd (pi_list (pe_f (c_entries T) hr (pa_cons (pv 0) (pa_cons (pv 3) pa_nil)))) (blkOk_by (own := [("thing", 15)]) (N := N_best_way) (sc := defScope s_best_way) (by decide +kernel)) (fun _ _ _ _ _ => (pg_name (i := 15) sc_best_way.nd rfl (by first | exact Or.inl rfl | exact Or.inr rfl))) (fun _ _ _ _ _ => pts_nil) (fun _ _ _ _ _ => (pv 15)) (fun _ _ _ _ _ => (pe_tup (pa_cons (pe_un un_neg (pe_dget hu (pv 2) (pv 15) (fun _ _ => rfl))) (pa_cons pe_int pa_nil))))))
      (pss_cons (ps_lock (ps_setDc (i := 6) (own := [("thing", 15)]) (by rfl) sc_best_way.nd rfl rfl (sw_trueD rfl rfl rfl (by decide +kernel)) (pi_keys (pv 5)) (blkOk_by (own := [("thing", 15)]) (N := N_best_way) (sc := defScope s_best_way) (by decide +kernel)) (fun _ _ _ _ _ => (pg_name (i := 15) sc_best_way.nd rfl (by first | exact Or.inl rfl | exact Or.inr rfl))) (fun _ _ _ _ _ => pts_nil) (fun _ _ _ _ _ => (pv 15)) (fun _ _ _ _ _ => pe_non)))
      (pss_cons (ps_set (i := 7) sc_best_way.nd rfl (Or.inl rfl) (pe_f (c_steps_between T) hr (pa_cons (pv 0) (pa_cons (pv 1) (pa_cons (pv 3) pa_nil)))))
      (pss_cons (ps_for PassesOwn.never rfl (pi_range1 (by rfl) T.f_range (pa_cons (pe_callB (call_lenI T hr) (by rfl) T.f_len bt_len (pa_cons (pv 0) pa_nil)) pa_nil)) (pg_name (i := 8) sc_best_way.nd rfl (by first | exact Or.inl rfl | exact Or.inr rfl)) (pss_one (ps_for PassesOwn.never rfl (pi_list (pv 7)) (pg_tup (by rfl) (pgs_cons (pg_name (i := 9) sc_best_way.nd rfl (by first | exact Or.inl rfl | exact Or.inr rfl)) (pgs_cons (pg_name (i := 10) sc_best_way.nd rfl (by first | exact Or.inl rfl | exact Or.inr rfl)) pgs_nil))) (pss_one (ps_if (pt_cmp (pc_din hu (pv 9) (pv 5))) (pss_cons (ps_set (i := 11) sc_best_way.nd rfl (Or.inl rfl) (pe_ifExp (pt_cmpR op_in_seq (pv 10) (pv 3) (by rfl)) (pe_dget hu (pv 2) (pv 10) (fun _ _ => rfl)) (pe_un un_neg (pe_dget hu (pv 2) (pv 10) (fun _ _ => rfl)))))
      (pss_cons (ps_set (i := 12) sc_best_way.nd rfl (Or.inl rfl) (pe_tup (pa_cons (pe_op op_add (pe_ix ix_tup (pe_dget hu (pv 5) (pv 9) (fun _ _ => rfl)) pe_int (fun _ _ => rfl)) (pv 11)) (pa_cons (pe_op op_add (pe_ix ix_tup (pe_dget hu (pv 5) (pv 9) (fun _ _ => rfl)) pe_int (fun _ _ => rfl)) pe_int) pa_nil))))
      (pss_one (ps_if (PW.pt (pw_or (pt_cmp (pc_dnotin hu (pv 10) (pv 5))) (pw_or1 (pt_cmpR (op_ltT hr.units0) (pv 12) (pe_dget hu (pv 5) (pv 10) (fun _ _ => rfl)) (nomark _))))) (pss_cons (ps_dput hu (pv 5) (pv 10) (pv 12) rfl)
      (pss_one (ps_dput hu (pv 6) (pv 10) (pv 9) rfl))) pss_nil)))) pss_nil)))))
      (pss_cons (ps_setLc (i := 13) (own := [("thing", 15)]) (by rfl) sc_best_way.nd rfl rfl (sw_true rfl rfl rfl (by decide +kernel)) (pi_list (pv 4)) (blkOk_by (own := [("thing", 15)]) (N := N_best_way) (sc := defScope s_best_way) (by decide +kernel)) (fun _ _ _ _ _ => (pg_name (i := 15) sc_best_way.nd rfl (by first | exact Or.inl rfl | exact Or.inr rfl))) (fun _ _ _ _ _ => (pts_one (pt_cmp (pc_din hu (pv 15) (pv 5))))) (fun _ _ _ _ _ => (pe_tup (pa_cons (pe_dget hu (pv 5) (pv 15) (fun _ _ => rfl)) (pa_cons (pv 15) pa_nil)))))
      (pss_cons (ps_if (pt_cmpR (op_eqD hr.units) (pv 13) (pe_lst pa_nil) (nomark _)) (pss_one (ps_ret pe_non)) pss_nil)
      (pss_cons (ps_set (i := 14) sc_best_way.nd rfl (Or.inl rfl) (pe_lst (pa_cons (pe_ix ix_tup (pe_callB (cr_minP hr) (by rfl) T.f_min bt_min (pa_cons (pv 13) pa_nil)) pe_int (fun _ _ => rfl)) pa_nil)))
      (pss_cons (ps_while PassesOwn.never (pt_cmpR op_notN (pe_dget hu (pv 6) (pe_ix ix_list (pv 14) (pe_un un_neg pe_int) (fun _ _ => rfl)) (fun _ _ => rfl)) pe_non (nomark _)) (pss_one (ps_expr (pe_bm PySem.F.plainAttrs_list PySem.F.slot_list_append PySem.F.type_list_append mt_append (pv 14) (pa_cons (pe_dget hu (pv 6) (pe_ix ix_list (pv 14) (pe_un un_neg pe_int) (fun _ _ => rfl)) (fun _ _ => rfl)) pa_nil)))))
      (pss_one (ps_ret (pv 14)))))))))))), ?_⟩
    -- ends
    refine ⟨_, rfl, _, rfl, R, p2, t, nm, As, r2, rfl, wi, hG, ht, hA, fun H1 el k1 nel hel => ?_⟩
    -- costs
    refine ⟨_, rfl, _, rfl, R, p1, t, nm, As, r1, rfl, k1.w, hF.mono k1, k1.at ht, hA, fun H2 sl k2 nsl hsl => ?_⟩
    refine ⟨sl, rfl, ⟨_, SqL.of hsl⟩, fun C hC => ?_⟩
    have k12 := k1.trans k2
    refine dcG hC (src_lst (c := V.str) (its := ents r1 nm As) hsl) k2.w (by have := lE r1; omega) (fun x v H => ∃ e, v = .ref e ∧ H e = some (.tup [.int (- wt x), .int 1])) Sum.inr (fun x v Ha Hb kk ⟨e, a, b⟩ => ⟨e, a, kk.at b⟩)
      (fun x v Ha xs zs hx ⟨e, a, b⟩ => ⟨e, a, by rw [upd_ne fun q => by rw [q, hx] at b; cases b]; exact b⟩) (nodup_inr (ndE r1)) (fun _ => rfl) (fun _ _ _ _ q => q)
      (fun x hx Ha Q' q' => ⟨_, rfl, q'⟩) (fun x hx Ha ka Q' q' => ?_) fun H3 kv3 k3 e3 pr3 => ?_
    · refine ⟨_, rfl, _, rfl, d, _, rfl, wt_get ((k12.trans ka).at hd) (inE r1 x hx), _, rfl, by show 2 ≤ sizeLine; decide, fun z nz => ?_⟩
      exact q' _ _ (Kp.upd ka.w nz) ⟨z, rfl, upd_same⟩
    obtain ⟨g0, rfl, hg0⟩ := paired_dfn (S := fun x v => ∃ e, v = .ref e ∧ H3 e = some (.tup [.int (- wt x), .int 1])) (ndE r1) pr3
    have k13 := k12.trans k3
    -- came
    refine ⟨C, _, e3, trivial, fun od => ?_⟩
    refine ⟨_, rfl, C, od, rfl, .inl ⟨_, upd_same, fun D hD => ?_⟩⟩
    refine dcG hD (src_keys (R := R) upd_same) (Kp.lock k3.w e3) (by rw [dfn_len]; have := lE r1; omega) (fun _ v _ => v = .non) (fun kv => kv.1) (fun _ _ _ _ _ h => h) (fun _ _ _ _ _ _ h => h) (by
        have e : (DFn (ents r1 nm As) g0).map (fun kv => kv.1) = (ents r1 nm As).map Sum.inr := dfn_keys _ _
        rw [e]; exact nodup_inr (ndE r1)) (fun _ => rfl) (fun _ _ _ _ q => q)
      (fun kv hkv Ha Q' q' => ⟨_, rfl, q'⟩) (fun kv hkv Ha ka Q' q' => q' _ Ha (Kp.refl ka.w) rfl) fun H4 kv4 k4 e4 pr4 => ?_
    have ekv4 : kv4 = DFn (ents r1 nm As) fun _ => .non := by
      have aux : ∀ (ks : List Str) {b : List (Key × V)}, Paired (fun (i kv : Key × V) => kv.1 = i.1 ∧ kv.2 = .non) (DFn ks g0) b → b = DFn ks fun _ => .non := by
        intro ks
        induction ks with
        | nil => intro b pp; cases pp; rfl
        | cons k ks ih =>
          intro b pp
          cases pp with
          | cons r t => rw [ih t, show _ = ((Sum.inr k, V.non) : Key × V) from Prod.ext r.1 r.2]; rfl
      exact aux _ pr4
    subst ekv4
    refine ⟨k4.at upd_same, ?_⟩
    have kU := Kp.unlock k3.w e3 k4
    have nDC : D ≠ C := fun z => by rw [z, upd_same] at hD; cases hD
    have e4' : (upd H4 C (.dK (DFn (ents r1 nm As) g0))) D = some (.dK (DFn (ents r1 nm As) fun _ => .non)) := by rw [upd_ne nDC]; exact e4
    have e3' : (upd H4 C (.dK (DFn (ents r1 nm As) g0))) C = some (.dK (DFn (ents r1 nm As) g0)) := upd_same
    have k14 := k13.trans kU
    have nC : H C = none := k12.fr hC
    have nD : H D = none := k13.fr (by rw [upd_ne nDC] at hD; exact hD)
    generalize (upd H4 C (.dK (DFn (ents r1 nm As) g0))) = H4' at kU e3' e4' k14
    -- steps
    refine ⟨_, rfl, _, rfl, _, rfl, R, p1, p2, t, nm, As, r1, r2, rfl, kU.w, hF.mono k14, hG.mono k14, k14.at ht, hA, fun H5 stl sps k5 nst hst pr5 => ?_⟩
    have k15 := k14.trans k5
    obtain ⟨jts, rfl, ej, hj⟩ := paired_zip pr5
    have nSC : stl ≠ C := fun z => by rw [z, e3'] at nst; cases nst
    have nSD : stl ≠ D := fun z => by rw [z, e4'] at nst; cases nst
    have jl : jts.length ≤ 128 := by
      have t1 := trd_len (r := r1) (nm := nm) (A := As) (Nat.le_trans lA l8) l8
      have t2 := trd_len (r := r2) (nm := nm) (A := As) (Nat.le_trans lA l8) l8
      have := congrArg List.length ej
      unfold stp at this
      rw [List.length_append, List.length_map, List.length_map] at this
      omega
    have hed : ∀ e, e ∈ stp r1 r2 nm As → Bf.bed r1 r2 nm As e.1 e.2 ∧ e.2 ∈ nm := fun e he => by
      rcases List.mem_append.mp he with z | z
      · obtain ⟨a, b, c, dd⟩ := (trd_ex hF.rk ndA (y := e.1) (x := e.2)).mp z
        exact ⟨.inl ⟨a, b, c, dd⟩, b⟩
      · obtain ⟨q', hq, rfl⟩ := List.mem_map.mp z
        obtain ⟨a, b, c, dd⟩ := (trd_ex hG.rk ndA (y := q'.1) (x := q'.2)).mp hq
        exact ⟨.inr ⟨b, c, a, dd⟩, sA _ a⟩
    have hed2 : ∀ u v, Bf.bed r1 r2 nm As u v → (u, v) ∈ stp r1 r2 nm As := fun u v h => by
      rcases h with ⟨a, b, c, dd⟩ | ⟨a, b, c, dd⟩
      · exact List.mem_append.mpr (.inl ((trd_ex hF.rk ndA).mpr ⟨a, b, c, dd⟩))
      · exact List.mem_append.mpr (.inr (List.mem_map.mpr ⟨(v, u), (trd_ex hG.rk ndA).mpr ⟨c, a, b, dd⟩, rfl⟩))
    -- the state of the labels
    let INV : Bf.BF Str → L2.St → Hp → Prop := fun s σ H6 => ∃ ks g v8 v9 v10 v11 v12, σ = [some (.ref p1), some (.ref p2), some (.ref d), some (.ref t), some (.ref el), some (.ref C), some (.ref D), some (.ref stl), v8, v9, v10, v11, v12, none, none, none] ∧ Kp R H H6 ∧ Ky C D H5 H6 ∧
      H6 C = some (.dK (DFn ks g)) ∧ H6 D = some (.dK (DFn ks fun v => encC (s.cm v))) ∧ CostG H6 ks g s ∧ ks.Nodup ∧ (∀ v, v ∈ ks ↔ s.cs v ≠ none) ∧ (∀ v, v ∈ ks → v ∈ nm)
    let s0 : Bf.BF Str := ⟨fun v => if v ∈ ents r1 nm As then some (- wt v, 1) else none, fun v => if v ∈ ents r1 nm As then some none else none⟩
    obtain ⟨B0, T0⟩ := Bf.bf_start (r1 := r1) (r2 := r2) (E := nm) (I := As) (w := wt) (src := ents r1 nm As) fun v => ents_ex hF.rk i1
    refine ⟨_, rfl, R, p1, nm, r1, rfl, hF.mono k15, (nm.length : Int), rfl, by omega, by omega, ?_⟩
    refine forG (G := fun _ => True) (src_rng (lo := 0) (n := nm.length)) (fun i σ H6 => ∃ s, INV s σ H6 ∧ Bf.BFInv (Bf.bsrc r1 nm As) (Bf.bed r1 r2 nm As) nm (Bf.bcst As wt) s ∧ ∀ p, Bf.Wk (Bf.bsrc r1 nm As) (Bf.bed r1 r2 nm As) p → p.length ≤ i + 1 → Bf.Told (Bf.bcst As wt) s p) (fun _ _ _ _ => trivial)
      ⟨s0, ⟨ents r1 nm As, g0, none, none, none, none, none, rfl, k15, fun b o h _ _ _ => h, k5.at e3', ?_, fun v hv => ?_, ndE r1, fun v => ?_, inE r1⟩, B0, T0⟩ ?_ ?_
    · rw [k5.at e4']
      congr 2
      refine dfn_congr fun v hv => ?_
      show V.non = encC (if v ∈ ents r1 nm As then some none else none)
      rw [if_pos hv]; rfl
    · obtain ⟨e, a, b⟩ := hg0 v hv
      have ne3 : e ≠ C := fun z => by rw [z, e3] at b; cases b
      exact ⟨e, (- wt v, 1), a, k5.at (kU.at b), if_pos hv⟩
    · show v ∈ ents r1 nm As ↔ (if v ∈ ents r1 nm As then some (- wt v, (1 : Int)) else none) ≠ none
      by_cases h : v ∈ ents r1 nm As
      · rw [if_pos h]; simp [h]
      · rw [if_neg h]; simp [h]
    · rintro i it σ H6 hi ⟨s, ⟨ks, g, v8, v9, v10, v11, v12, rfl, k6, ky6, hC6, hD6, cg6, nd6, dom6, in6⟩, BI, TI⟩
      refine ⟨_, rfl, stl, rfl, ⟨_, SqL.of (ky6.at hst nSC nSD)⟩, ?_⟩
      refine forG (G := fun H7 => H7 stl = some (.lst (jts.map (·.1)))) (src_lstG (c := (·.1)) (its := jts) fun _ g => g) (fun j σ H7 => INV (((jts.take j).map (·.2)).foldl (Bf.relax (Bf.bcst As wt)) s) σ H7)
        (fun j σ H7 ⟨_, _, _, _, _, _, _, _, _, ky, _⟩ => ky.at hst nSC nSD) ⟨ks, g, _, v9, v10, v11, v12, rfl, k6, ky6, hC6, hD6, cg6, nd6, dom6, in6⟩ ?_ ?_
      · rintro j e σ H7 he ⟨ks, g, v8, v9, v10, v11, v12, rfl, k7, ky7, hC7, hD7, cg7, nd7, dom7, in7⟩
        obtain ⟨tt, et, htt⟩ := hj e (List.mem_of_getElem? he)
        have heS : e.2 ∈ stp r1 r2 nm As := by rw [ej]; exact List.mem_map.mpr ⟨e, List.mem_of_getElem? he, rfl⟩
        obtain ⟨_, hvn⟩ := hed _ heS
        have ntC : tt ≠ C := fun z => by rw [z, k5.at e3'] at htt; cases htt
        have ntD : tt ≠ D := fun z => by rw [z, k5.at e4'] at htt; cases htt
        have es : ((jts.take (j + 1)).map (·.2)).foldl (Bf.relax (Bf.bcst As wt)) s = Bf.relax (Bf.bcst As wt) (((jts.take j).map (·.2)).foldl (Bf.relax (Bf.bcst As wt)) s) (e.2.1, e.2.2) := by
          rw [take_succ_at he, List.map_append, List.foldl_append]; rfl
        rw [es, et]
        generalize ((jts.take j).map (·.2)).foldl (Bf.relax (Bf.bcst As wt)) s = s' at hD7 cg7 dom7
        obtain ⟨ev, u, v⟩ := e
        have lks : ks.length ≤ 8 := Nat.le_trans (Bf.nodup_le nd7 in7) l8
        refine ⟨tt, _, rfl, SqT.of (ky7.at htt ntC ntD), rfl, _, _, rfl, _, _, rfl, rfl, ?_⟩
        refine ⟨_, rfl, _, rfl, C, _, rfl, DGet.k (k := Sum.inr u) hC7, _, rfl, ?_⟩
        cases hk : s'.cs u with
        | none =>
          rw [dfn_no (fun z => (dom7 u).mp z hk), relax_none hk]
          exact iteF ⟨ks, g, _, _, _, _, _, rfl, k7, ky7, hC7, hD7, cg7, nd7, dom7, in7⟩
        | some k =>
          have huk : u ∈ ks := (dom7 u).mpr (by rw [hk]; simp)
          obtain ⟨eu, ku, gu, hu1, hu2⟩ := cg7 u huk
          rw [hk] at hu2
          cases hu2
          rw [dfn_get huk]
          refine iteT ?_
          refine ⟨_, rfl, _, rfl, t, As.map V.str, rfl, .inr (SqT.of (k7.at ht)), rfl, flat_strs _, _, rfl, ?_⟩
          rw [if_neg Bool.false_ne_true, inV_str]
          have hvn' : v ∈ nm := hvn
          by_cases hvA : v ∈ As
          all_goals first
            | (rw [decide_eq_true hvA]
               refine iteT ⟨_, rfl, _, rfl, d, _, rfl, wt_get (k7.at hd) hvn', ?_⟩
               rw [show wt v = Bf.bcst As wt v from (if_pos hvA).symm])
            | (rw [decide_eq_false hvA]
               refine iteF ⟨_, rfl, _, rfl, d, _, rfl, wt_get (k7.at hd) hvn', _, rfl, ?_⟩
               dsimp only
               rw [show - wt v = Bf.bcst As wt v from (if_neg hvA).symm])
          all_goals
            have gD : DGet H7 C (.str u) (some (g u)) := dfn_get (g := g) huk ▸ DGet.k (k := Sum.inr u) hC7
            refine ⟨_, rfl, _, rfl, C, _, rfl, gD, eu, _, 0, _, gu, rfl, SqT.of hu1, rfl, _, rfl, _, _, rfl, rfl, ?_⟩
            refine ⟨_, rfl, _, rfl, C, _, rfl, gD, eu, _, 1, _, gu, rfl, SqT.of hu1, rfl, _, _, rfl, rfl, ?_⟩
            refine ⟨by show 2 ≤ sizeLine; decide, fun n nn => ?_⟩
            have kn := Kp.upd k7.w nn (o := .tup [V.int (k.1 + Bf.bcst As wt v), V.int (k.2 + 1)])
            have hC8 := kn.at hC7
            have hD8 := kn.at hD7
            have nC8 : n ≠ C := (ne_of_none hC7 nn).symm
            have nD8 : n ≠ D := (ne_of_none hD7 nn).symm
            have k8 := k7.trans kn
            have ky8 := ky7.kp kn
            have hn8 : (upd H7 n (.tup [V.int (k.1 + Bf.bcst As wt v), V.int (k.2 + 1)])) n = some (.tup [V.int (k.1 + Bf.bcst As wt v), V.int (k.2 + 1)]) := upd_same
            have cg8 : CostG (upd H7 n (.tup [V.int (k.1 + Bf.bcst As wt v), V.int (k.2 + 1)])) ks g s' := fun y hy => by
              obtain ⟨e, k, a, b, c⟩ := cg7 y hy
              exact ⟨e, k, a, kn.at b, c⟩
            generalize (upd H7 n (.tup [V.int (k.1 + Bf.bcst As wt v), V.int (k.2 + 1)])) = H8 at hC8 hD8 k8 ky8 hn8 cg8
            have put : (∀ o, s'.cs v = some o → Bf.klt (k.1 + Bf.bcst As wt v, k.2 + 1) o) → INV (Bf.relax (Bf.bcst As wt) s' (u, v)) [some (.ref p1), some (.ref p2), some (.ref d), some (.ref t), some (.ref el), some (.ref C), some (.ref D), some (.ref stl), v8, some (.str u), some (.str v), some (.int (Bf.bcst As wt v)), some (.ref n), none, none, none]
                (upd (upd H8 C (.dK (putK (DFn ks g) (Sum.inr v) (.ref n)))) D (.dK (putK (DFn ks fun v => encC (s'.cm v)) (Sum.inr v) (.str u)))) := by
              intro hlt
              rw [relax_put hk hlt]
              refine ⟨kins ks v, fun y => if y = v then .ref n else g y, _, _, _, _, _, rfl, (k8.mut nC).mut nD, (ky8.upd1).upd2, ?_, ?_, fun y hy => ?_, kins_nd nd7, fun y => ?_, fun y hy => ?_⟩
              · rw [upd_ne nDC.symm, upd_same, dfn_ins]
              · rw [upd_same, dfn_ins]
                congr 2
                refine dfn_congr fun y hy => ?_
                show (if y = v then V.str u else encC (s'.cm y)) = encC (if y = v then some (some u) else s'.cm y)
                by_cases z : y = v
                · rw [if_pos z, if_pos z]; rfl
                · rw [if_neg z, if_neg z]
              · have st : ∀ {b o}, H8 b = some (.tup o) → (upd (upd H8 C (.dK (putK (DFn ks g) (Sum.inr v) (.ref n)))) D (.dK (putK (DFn ks fun v => encC (s'.cm v)) (Sum.inr v) (.str u)))) b = some (.tup o) := fun {b o} h => by
                  rw [upd_ne (fun z => by rw [z, hD8] at h; cases h), upd_ne (fun z => by rw [z, hC8] at h; cases h)]; exact h
                show ∃ e k', (if y = v then V.ref n else g y) = .ref e ∧ _ ∧ (if y = v then some (k.1 + Bf.bcst As wt v, k.2 + 1) else s'.cs y) = some k'
                by_cases z : y = v
                · rw [if_pos z, if_pos z]
                  exact ⟨n, (k.1 + Bf.bcst As wt v, k.2 + 1), rfl, st hn8, rfl⟩
                · rw [if_neg z, if_neg z]
                  obtain ⟨e, k', a, b, c⟩ := cg8 y ((mem_kins.mp hy).resolve_right z)
                  exact ⟨e, k', a, st b, c⟩
              · show y ∈ kins ks v ↔ (if y = v then some (k.1 + Bf.bcst As wt v, k.2 + 1) else s'.cs y) ≠ none
                rw [mem_kins]
                by_cases z : y = v
                · rw [if_pos z]; simp [z]
                · rw [if_neg z, ← dom7 y]; simp [z]
              · rcases mem_kins.mp hy with z | z
                · exact in7 y z
                · exact z ▸ hvn'
            refine ⟨_, rfl, _, rfl, C, _, rfl, DGet.k (k := Sum.inr v) hC8, _, rfl, ?_⟩
            cases hv : s'.cs v with
            | none =>
              rw [dfn_no (fun z => (dom7 v).mp z hv)]
              refine iteT (iteT ?_)
              refine ⟨_, rfl, _, rfl, _, rfl, C, _, rfl, DPut.k (k := Sum.inr v) hC8 (by rw [dfn_len]; exact Nat.lt_of_le_of_lt lks (by decide)), ?_⟩
              refine ⟨_, rfl, _, rfl, _, rfl, D, _, rfl, DPut.k (k := Sum.inr v) (by rw [upd_ne nDC]; exact hD8) (by rw [dfn_len]; exact Nat.lt_of_le_of_lt lks (by decide)), ?_⟩
              exact put fun o ho => by rw [hv] at ho; cases ho
            | some o =>
              have hvk : v ∈ ks := (dom7 v).mpr (by rw [hv]; simp)
              obtain ⟨ee, ke, ge, he1, he2⟩ := cg8 v hvk
              rw [hv] at he2
              cases he2
              rw [dfn_get hvk]
              have gV : DGet H8 C (.str v) (some (g v)) := dfn_get (g := g) hvk ▸ DGet.k (k := Sum.inr v) hC8
              refine iteF ⟨_, rfl, _, rfl, _, rfl, C, _, rfl, gV, n, ee, [k.1 + Bf.bcst As wt v, k.2 + 1], [o.1, o.2], rfl, ge, SqT.of hn8, SqT.of he1, _, rfl, ?_⟩
              rw [lex_klt]
              refine ite2 (fun hc => ?_) (fun hc => ?_)
              · have hlt := of_decide_eq_true hc
                refine ⟨_, rfl, _, rfl, _, rfl, C, _, rfl, DPut.k (k := Sum.inr v) hC8 (by rw [dfn_len]; exact Nat.lt_of_le_of_lt lks (by decide)), ?_⟩
                refine ⟨_, rfl, _, rfl, _, rfl, D, _, rfl, DPut.k (k := Sum.inr v) (by rw [upd_ne nDC]; exact hD8) (by rw [dfn_len]; exact Nat.lt_of_le_of_lt lks (by decide)), ?_⟩
                exact put fun o' ho => by rw [hv] at ho; cases ho; exact hlt
              · have hlt : ¬ Bf.klt _ _ := fun z => hc (decide_eq_true z)
                rw [relax_skip hk hv hlt]
                exact ⟨ks, g, _, _, _, _, _, rfl, k8, ky8, hC8, hD8, cg8, nd7, dom7, in7⟩
      · rintro σ H7 hI
        rw [List.take_length, ← ej] at hI
        exact ⟨_, hI, Bf.round_inv hed BI, fun p hp hl => Bf.round_told hed2 (by omega) TI p hp hl⟩
    · rintro σ H6 ⟨s, ⟨ks, g, v8, v9, v10, v11, v12, rfl, k6, ky6, hC6, hD6, cg6, nd6, dom6, in6⟩, BI, TI⟩
      rw [List.length_range] at TI
      have FN := Bf.bf_fin (r1 := r1) (r2 := r2) sA hx BI fun p hp hl => TI p hp (by omega)
      have cmk : ∀ v, s.cm v ≠ none ↔ v ∈ ks := fun v => by
        rw [dom6 v]
        exact not_congr (BI.dom v)
      let Lf : Str → Int × Int := fun v => (s.cs v).getD (0, 0)
      have cg6' : ∀ v, v ∈ ks → ∃ e, g v = .ref e ∧ H6 e = some (.tup [.int (Lf v).1, .int (Lf v).2]) := fun v hv => by
        obtain ⟨e, k, a, b, c⟩ := cg6 v hv
        refine ⟨e, a, ?_⟩
        show H6 e = some (.tup [.int ((s.cs v).getD (0, 0)).1, .int ((s.cs v).getD (0, 0)).2])
        rw [c]; exact b
      have nelC : el ≠ C := ne_of_none (k2.at hel) hC
      have nelD : el ≠ D := by
        have h3 : (upd H3 C (.frz od (.dK (DFn (ents r1 nm As) g0)))) el = some (.lst ((ents r2 nm As).map V.str)) := by rw [upd_ne nelC]; exact k3.at (k2.at hel)
        exact ne_of_none h3 hD
      have hel6 : H6 el = some (.lst ((ents r2 nm As).map V.str)) := ky6.at (k5.at (kU.at (k3.at (k2.at hel)))) nelC nelD
      -- reached
      refine ⟨_, rfl, el, rfl, ⟨_, SqL.of hel6⟩, fun D' hD' => ?_⟩
      refine lcG hD' (src_lst (c := V.str) (its := ents r2 nm As) hel6) k6.w (by have := lE r2; omega) (fun x v H => tripV H v (Lf x, x)) (fun x => decide (x ∈ ks)) (fun x => _) (fun x v Ha Hb kk ⟨a, b, e, h1, h2⟩ => ⟨a, b, e, kk.at h1, kk.at h2⟩)
        (fun x v Ha xs ys hx ⟨a, b, e, h1, h2⟩ => ⟨a, b, e, by rw [upd_ne fun z => by rw [z, hx] at h1; cases h1]; exact h1, by rw [upd_ne fun z => by rw [z, hx] at h2; cases h2]; exact h2⟩) (fun x => ?_) (fun x hx H7 k7 QG qg => qg) (fun x hx H7 k7 QT qt => ?_) (fun x hx hT xs H7 k7 hDD Q' q' => ?_) fun H7 ys k7 e7 pr7 => ?_
      · rfl
      · refine ⟨_, rfl, _, rfl, C, _, rfl, DGet.k (k := Sum.inr x) (k7.at hC6), ?_⟩
        by_cases hxk : x ∈ ks
        · rw [dfn_get hxk]
          refine ⟨_, rfl, ?_⟩
          have := qt H7 (Kp.refl k7.w)
          rw [decide_eq_true hxk] at this
          exact this
        · rw [dfn_no hxk]
          refine ⟨_, rfl, ?_⟩
          have := qt H7 (Kp.refl k7.w)
          rw [decide_eq_false hxk] at this
          exact this
      · have hxk : x ∈ ks := of_decide_eq_true hT
        obtain ⟨e, a, b⟩ := cg6' x hxk
        have gX : DGet H7 C (.str x) (some (g x)) := dfn_get (g := g) hxk ▸ DGet.k (k := Sum.inr x) (k7.at hC6)
        refine ⟨_, rfl, _, rfl, C, _, rfl, gX, _, rfl, by show 2 ≤ sizeLine; decide, fun z nz => ?_⟩
        have kz := Kp.upd k7.w nz (o := .tup [g x, V.str x])
        exact q' _ _ kz ⟨z, e, rfl, by rw [upd_same, a], kz.at (k7.at b)⟩
      have k67 := k6.trans k7
      have hin : ∀ x, x ∈ (ents r2 nm As).filter (fun x => decide (x ∈ ks)) ↔ (x ∈ nm ∧ x ∉ As ∧ Bf.Ind r2 (x :: As)) ∧ s.cm x ≠ none := fun x => by
        rw [List.mem_filter, decide_eq_true_iff, ents_ex hG.rk i2, cmk x]
      generalize hfl : (ents r2 nm As).filter (fun x => decide (x ∈ ks)) = fl at hin pr7
      have prT : Paired (tripV H7) ys (fl.map fun x => (Lf x, x)) := by
        have aux : ∀ {zs : List Str} {vs : List V}, Paired (fun x v => tripV H7 v (Lf x, x)) zs vs → Paired (tripV H7) vs (zs.map fun x => (Lf x, x)) := by
          intro zs vs pp
          induction pp with
          | nil => exact .nil
          | cons r t ih => exact .cons r ih
        exact aux pr7
      have okT : ∀ k, k ∈ fl.map (fun x => (Lf x, x)) → PyData.strOk k.2 = true := fun k hk => by
        obtain ⟨x, hx, rfl⟩ := List.mem_map.mp hk
        exact hF.ok x ((hin x).mp hx).1.1
      refine ⟨_, rfl, Nat.zero_le _, fun e ne => ?_⟩
      have ke := Kp.upd k7.w ne (o := .lst [])
      have k8 := k67.trans ke
      have prT' : Paired (tripV (upd H7 e (.lst []))) ys (fl.map fun x => (Lf x, x)) := L2.Paired.mapP prT fun v k ⟨a, b, e, h1, h2⟩ => ⟨a, b, e, ke.at h1, ke.at h2⟩
      refine eq_nilT (ks := fl.map fun x => (Lf x, x)) (ke.at e7) prT' upd_same okT ⟨_, rfl, ?_⟩
      by_cases efl : fl = []
      · rw [decide_eq_true (by rw [efl]; rfl)]
        refine iteT (q _ _ k8 (.inl ⟨rfl, wt, s.cm, _, FN, fun x hx hxi hf hc => ?_⟩))
        have := (hin x).mpr ⟨⟨hx, hxi, hf⟩, hc⟩
        rw [efl] at this
        cases this
      · rw [decide_eq_false (fun z => efl (List.map_eq_nil_iff.mp z))]
        refine iteF ?_
        refine ⟨_, rfl, D', ys, fl.map fun x => (Lf x, x), rfl, ke.at e7, prT', fun z => efl (List.map_eq_nil_iff.mp z), fun v m hv hm hT hmin => ?_⟩
        obtain ⟨x, hxf, rfl⟩ := List.mem_map.mp hm
        obtain ⟨⟨x1, x2, x3⟩, xc⟩ := (hin x).mp hxf
        obtain ⟨a, b, rfl, ha, hb⟩ := hT
        refine ⟨a, _, 1, _, rfl, rfl, SqT.of ha, rfl, ?_⟩
        refine ⟨by show 1 ≤ sizeLine; decide, fun wl nwl => ?_⟩
        have k9 := k8.new nwl (o := .lst [V.str x])
        have nwH := k8.fr nwl
        have hD9 : (upd (upd H7 e (.lst [])) wl (.lst [V.str x])) D = some (.dK (DFn ks fun v => encC (s.cm v))) := (Kp.upd ke.w nwl).at (ke.at (k7.at hD6))
        have nwD : wl ≠ D := fun z => by rw [z] at nwl; rw [ke.at (k7.at hD6)] at nwl; cases nwl
        refine ⟨fun m σ Hw => ∃ (ys : List Str) (y : Str), m = (Lf y).2.toNat ∧ σ = [some (.ref p1), some (.ref p2), some (.ref d), some (.ref t), some (.ref el), some (.ref C), some (.ref D), some (.ref stl), v8, v9, v10, v11, v12, some (.ref D'), some (.ref wl), none] ∧ Kp R H Hw ∧ Hw D = some (.dK (DFn ks fun v => encC (s.cm v))) ∧ Hw wl = some (.lst ((ys ++ [y]).map V.str)) ∧ (ys ++ [y]).Nodup ∧ (∀ z, z ∈ ys ++ [y] → z ∈ ks) ∧ (∀ z, z ∈ ys → (Lf y).2 < (Lf z).2) ∧
          (∀ p, Bf.Bk s.cm (y :: p) → Bf.Bk s.cm (ys ++ y :: p)) ∧ ∃ p, ys ++ [y] = x :: p, ⟨_, [], x, rfl, rfl, k9, hD9, upd_same, by simp, by simpa using (cmk x).mp xc, by simp, fun p h => h, [], rfl⟩, ?_⟩
        rintro m σ Hw ⟨ys, y, rfl, rfl, kw, hDw, hl, nd, sub, lt, pb, p, ep⟩
        have hy : y ∈ ks := sub y (by simp)
        have len8 : (ys ++ [y]).length ≤ 8 := Nat.le_trans (Bf.nodup_le nd fun z hz => in6 z (sub z hz)) l8
        have hl' : SqL K Hw wl (ys.map V.str ++ [V.str y]) := SqL.of (by rw [hl, List.map_append]; rfl)
        have hy' := (cmk y).mpr hy
        refine ⟨_, rfl, _, rfl, _, rfl, wl, _, -1, .str y, rfl, rfl, hl', atI_last, D, _, rfl, (show DGet _ _ (kV (Sum.inr y)) _ from dfn_get hy ▸ DGet.k hDw), rfl, _, rfl, ?_⟩
        cases ec : s.cm y with
        | none => exact absurd ec hy'
        | some o =>
          cases o with
          | none =>
            have hbk := pb [] ec
            rw [ep] at hbk
            refine iteF ⟨_, rfl, q Hw _ kw (.inr ⟨wl, x :: p, rfl, by rw [← ep]; exact hl, ?_⟩)⟩
            refine good_of hF.rk hG.rk i1 i2 sA FN hbk x2 x3 (fun y' hy1 hy2 hy3 hy4 => ?_) (List.Perm.refl _)
            have hyf := (hin y').mpr ⟨⟨hy1, hy2, hy3⟩, hy4⟩
            have := hmin (Lf y', y') (List.mem_map.mpr ⟨y', hyf, rfl⟩)
            show Bf.kle (Lf x) (Lf y')
            unfold tripLe at this
            simp only at this
            unfold Bf.kle
            omega
          | some u =>
            obtain ⟨fa, fb⟩ := FN.falls ec
            have hu1 : u ∈ ks := (cmk u).mp fb
            have hp : 1 ≤ (Lf u).2 := FN.pos u fb
            have fa' : (Lf u).2 < (Lf y).2 := fa
            refine iteT ⟨fun σ H2 => ∃ (ys : List Str) (z : Str), (Lf z).2.toNat < (Lf y).2.toNat ∧ σ = [some (.ref p1), some (.ref p2), some (.ref d), some (.ref t), some (.ref el), some (.ref C), some (.ref D), some (.ref stl), v8, v9, v10, v11, v12, some (.ref D'), some (.ref wl), none] ∧ Kp R H H2 ∧ H2 D = some (.dK (DFn ks fun v => encC (s.cm v))) ∧ H2 wl = some (.lst ((ys ++ [z]).map V.str)) ∧ (ys ++ [z]).Nodup ∧ (∀ z', z' ∈ ys ++ [z] → z' ∈ ks) ∧ (∀ z', z' ∈ ys → (Lf z).2 < (Lf z').2) ∧
              (∀ p, Bf.Bk s.cm (z :: p) → Bf.Bk s.cm (ys ++ z :: p)) ∧ ∃ p, ys ++ [z] = x :: p, ?_, ?_⟩
            · rintro σ' H2 ⟨ys', z, h0, rfl, h1, hz, h2, h3, h4, h5, h6, h7⟩
              exact ⟨_, h0, ys', z, rfl, rfl, h1, hz, h2, h3, h4, h5, h6, h7⟩
            refine ⟨_, rfl, .inl ⟨rfl, _, SqL.of hl⟩, _, rfl, _, rfl, _, rfl, wl, _, -1, .str y, rfl, rfl, hl', atI_last, D, _, rfl, (show DGet _ _ (kV (Sum.inr y)) _ from dfn_get hy ▸ DGet.k hDw), ?_⟩
            refine ⟨wl, _, _, rfl, rfl, hl, by rw [List.length_map]; exact Nat.lt_of_le_of_lt len8 (by decide), ?_⟩
            rw [ec]
            have lt' : ∀ z', z' ∈ ys ++ [y] → (Lf u).2 < (Lf z').2 := fun z' hz => by
              rcases List.mem_append.mp hz with h | h
              · have := lt z' h; omega
              · rw [List.mem_singleton.mp h]; omega
            refine ⟨ys ++ [y], u, by omega, rfl, kw.mut nwH, by rw [upd_ne nwD.symm]; exact hDw, (by rw [upd_same, List.map_append (l₁ := ys ++ [y])]; rfl), ?_, fun z' hz => ?_, lt', fun p' hb => ?_, p ++ [u], by rw [ep]; rfl⟩
            · rw [List.nodup_append]
              refine ⟨nd, by simp, fun a ha b hb ee => ?_⟩
              have : b = u := by simpa using hb
              have h1 := lt' a ha
              rw [ee, this] at h1
              omega
            · rcases List.mem_append.mp hz with h | h
              · exact sub z' h
              · rw [List.mem_singleton.mp h]; exact hu1
            · rw [List.append_assoc]
              exact pb (u :: p') ⟨ec, hb⟩
end
end Bw
set_option Elab.async false
set_option linter.all false
set_option pp.maxSteps 300
set_option maxRecDepth 100000
set_option maxHeartbeats 4000000
/-! split.py: heaviest lots -/
namespace Bw
open PySem PySem.Spec PyProof.Rows L2 Bt Bs Bm
section
variable {P : Program} {w : World} {K : PySem.W.Frag} {mg : Str → Option Value} {base : Heap}
/-- a lot as a value -/
def lotV (H : Hp) (v : V) (A : List Str) : Prop := ∃ t, v = .ref t ∧ H t = some (.tup (A.map V.str))
theorem lotV.mono {R : Reg} {H H' : Hp} (k : Kp R H H') {v : V} {A : List Str} (h : lotV H v A) : lotV H' v A := by
  obtain ⟨t, e, h1⟩ := h
  exact ⟨t, e, k.at h1⟩
theorem lotV.updl {H : Hp} {l : Addr} {xs ys : List V} (hl : H l = some (.lst xs)) {v : V} {A : List Str} (h : lotV H v A) : lotV (upd H l (.lst ys)) v A := by
  obtain ⟨t, e, h1⟩ := h
  exact ⟨t, e, by rw [upd_ne fun z => by rw [z, hl] at h1; cases h1]; exact h1⟩
/-- heaviest of its size -/
structure HvL (r1 r2 : List Str → Nat) (nm : List Str) (wt : Str → Int) (A : List Str) : Prop where
  lot : Lot nm A
  i1 : Bf.Ind r1 A
  i2 : Bf.Ind r2 A
  ext : Bf.ExtW r1 r2 nm wt A
/-- lots of 0, 1, 2, .. things -/
structure HvS (r1 r2 : List Str → Nat) (nm : List Str) (wt : Str → Int) (Ls : List (List Str)) : Prop where
  len : ∀ (i : Nat) (A : List Str), Ls[i]? = some A → A.length = i
  hv : ∀ A : List Str, A ∈ Ls → HvL r1 r2 nm wt A
theorem HvS.le {r1 r2 : List Str → Nat} {nm : List Str} {wt : Str → Int} {Ls : List (List Str)} (n : SS nm) (h : HvS r1 r2 nm wt Ls) : Ls.length ≤ nm.length + 1 := by
  cases e : Ls.length with
  | zero => omega
  | succ k =>
    have hk : k < Ls.length := by omega
    have h1 := h.len k Ls[k] (List.getElem?_eq_getElem hk)
    have h2 := lot_le n (h.hv Ls[k] (List.getElem_mem hk)).lot
    omega
/-- what heaviest_lots gives -/
structure HvE (r1 r2 : List Str → Nat) (nm : List Str) (wt : Str → Int) (most : Int) (Ls : List (List Str)) : Prop where
  s : HvS r1 r2 nm wt Ls
  le : (Ls.length : Int) ≤ most + 1
  ne : 1 ≤ Ls.length
  no : (Ls.length : Int) ≤ most → ∃ A, Ls[Ls.length - 1]? = some A ∧ NoFwd r1 r2 nm A
def spHeaviest (K : PySem.W.Frag) : Sp := fun vs H Q _ => ∃ (R : Reg) (p1 p2 d : Addr) (nm : List Str) (r1 r2 : List Str → Nat) (wt : Str → Int) (most : Int), vs = [.ref p1, .ref p2, .ref d, .int most] ∧ WInv R H ∧ FamS K R H p1 nm r1 ∧ FamS K R H p2 nm r2 ∧ H d = some (.dK (wtD nm wt)) ∧ 0 ≤ most ∧
  ∀ H' l vs Ls, Kp R H H' → H l = none → H' l = some (.lst vs) → Paired (lotV H') vs Ls → HvE r1 r2 nm wt most Ls → Q (.ref l) H'
abbrev N_heaviest_lots : List Str := ["one", "other", "weights", "most", "found", "lot", "way", "kept", "thing"]
theorem sc_heaviest_lots : FnScope N_heaviest_lots ["one", "other", "weights", "most"] (defScope s_heaviest_lots) := ⟨rfl, rfl, rfl, by decide +kernel, rfl, by decide +kernel, by decide +kernel⟩
theorem c_heaviest_lots (T : Txt K mg) : Call P w K mg base 10 "heaviest_lots" ["one", "other", "weights", "most"] (spHeaviest K) := by
  refine mkCall T.d_heaviest_lots sc_heaviest_lots (fun _ _ _ _ _ _ us hl => match us, hl with | [_, _, _, _], _ => rfl) (fun vs H Q E h => ?_) (fun cdv A outer s H vs Q E hr h => ?_)
  · obtain ⟨R, p1, p2, d, nm, r1, r2, wt, most, rfl, _⟩ := h; rfl
  · obtain ⟨R, p1, p2, d, nm, r1, r2, wt, most, rfl, wi, hF, hG, hd, hm0, q⟩ := h
    have hu := hu_of hr
    have l8 := hF.l8
    refine ⟨_, (pss_cons (ps_set (i := 4) sc_heaviest_lots.nd rfl (Or.inl rfl) (pe_lst (pa_cons (pe_tup pa_nil) pa_nil)))
      (pss_cons (ps_while PassesOwn.never (pt_cmpR op_le (pe_callB call_len_seq (by rfl) T.f_len bt_len (pa_cons (pv 4) pa_nil)) (pv 3) (nomark _)) (pss_cons (ps_set (i := 5) sc_heaviest_lots.nd rfl (Or.inr rfl) (pe_ix ix_list (pv 4) (pe_un un_neg pe_int) (fun _ _ => rfl)))
      (pss_cons (ps_set (i := 6) sc_heaviest_lots.nd rfl (Or.inr rfl) (pe_f (c_best_way T) hr (pa_cons (pv 0) (pa_cons (pv 1) (pa_cons (pv 2) (pa_cons (pv 5) pa_nil))))))
      (pss_cons (ps_if (pt_cmpR op_isN (pv 6) pe_non (nomark _)) (pss_one ps_break) pss_nil)
      (pss_cons (ps_setLc (i := 7) (own := [("thing", 8)]) (by rfl) sc_heaviest_lots.nd rfl rfl (sw_true rfl rfl rfl (by decide +kernel)) (pi_tup (pv 5)) (blkOk_by (own := [("thing", 8)]) (N := N_heaviest_lots) (sc := defScope s_heaviest_lots) (by decide +kernel)) (fun _ _ _ _ _ => (pg_name (i := 8) sc_heaviest_lots.nd rfl (by first | exact Or.inl rfl | exact Or.inr rfl))) (fun _ _ _ _ _ => (pts_one (pt_cmpR (show OpR _ _ (rIn K true) from op_notIn_seq) (pv 8) (pv 6) (by rfl)))) (fun _ _ _ _ _ => (pv 8)))
      (pss_one (ps_expr (pe_bm PySem.F.plainAttrs_list PySem.F.slot_list_append PySem.F.type_list_append mt_append (pv 4) (pa_cons (pe_callTy call_tuple_of (by rfl) T.f_tuple bt_tuple (pa_cons (pe_callB cr_sortedS (by rfl) T.f_sorted bt_sorted (pa_cons (pe_op op_cat (pv 7) (pe_lc (own := [("thing", 8)]) (by rfl) sc_heaviest_lots.nd (pi_list (pv 6)) (blkOk_by (own := [("thing", 8)]) (N := N_heaviest_lots) (sc := defScope s_heaviest_lots) (by decide +kernel)) (fun _ _ _ _ _ => (pg_name (i := 8) sc_heaviest_lots.nd rfl (by first | exact Or.inl rfl | exact Or.inr rfl))) (fun _ _ _ _ _ => (pts_one (pt_cmpR (show OpR _ _ (rIn K true) from op_notIn_seq) (pv 8) (pv 5) (by rfl)))) (fun _ _ _ _ _ => (pv 8)))) pa_nil)) pa_nil)) pa_nil)))))))))
      (pss_one (ps_ret (pv 4))))), ?_⟩
    refine ⟨Nat.zero_le _, fun t0 nt0 => ?_⟩
    have k0 := Kp.upd wi nt0 (o := .tup [])
    refine ⟨by show 1 ≤ sizeLine; decide, fun l nl => ?_⟩
    have k1 := k0.new nl (o := .lst [V.ref t0])
    have nlH : H l = none := k0.fr nl
    have n1 : Bf.Ind r1 [] := hF.rk.nil
    have n2 : Bf.Ind r2 [] := hG.rk.nil
    refine ⟨fun m σ H1 => ∃ v5 v6 v7 ws Ls, m = nm.length + 1 - Ls.length ∧ σ = [some (.ref p1), some (.ref p2), some (.ref d), some (.int most), some (.ref l), v5, v6, v7, none] ∧ Kp R H H1 ∧ H1 l = some (.lst ws) ∧ Paired (lotV H1) ws Ls ∧ HvS r1 r2 nm wt Ls ∧ 1 ≤ Ls.length ∧ (Ls.length : Int) ≤ most + 1,
      ⟨_, none, none, none, [V.ref t0], [[]], rfl, rfl, k1, upd_same, .cons ⟨t0, rfl, (Kp.upd k0.w nl).at upd_same⟩ .nil, ⟨fun i A hi => ?_, fun A hA => ?_⟩, by decide, by show (1 : Int) ≤ most + 1; omega⟩, ?_⟩
    · cases i with
      | zero => cases hi; rfl
      | succ i => cases hi
    · rw [List.mem_singleton.mp hA]
      exact ⟨lot_nil nm, n1, n2, Bf.ext_nil⟩
    rintro m σ H1 ⟨v5, v6, v7, ws, Ls, rfl, rfl, k, hl, pr, hs, h1, hle⟩
    have lLs := hs.le hF.ss
    have lws : ws.length = Ls.length := pr.length
    refine ⟨_, rfl, l, _, rfl, .inl (SqL.of hl), _, rfl, _, _, rfl, rfl, _, rfl, ?_⟩
    refine ite2 (fun hc => ?_) (fun hc => ?_)
    · have hlm : (Ls.length : Int) ≤ most := by have := of_decide_eq_true hc; rw [lws] at this; exact this
      -- the last lot
      obtain ⟨its, rfl, rfl, hits⟩ := paired_zip pr
      rw [List.length_map] at h1 lLs lws hlm
      obtain ⟨it0, z, e0⟩ : ∃ it0 z, its = it0 ++ [z] := ⟨its.dropLast, its.getLast (fun e => by rw [e] at h1; simp at h1), (List.dropLast_concat_getLast _).symm⟩
      have e1 : its.map (·.1) = it0.map (·.1) ++ [z.1] := by rw [e0, List.map_append]; rfl
      have zin : z ∈ its := by rw [e0]; simp
      obtain ⟨zt, ez, hzt⟩ := hits z zin
      have hz := hs.hv z.2 (List.mem_map.mpr ⟨z, zin, rfl⟩)
      have elen : its.length = it0.length + 1 := by rw [e0, List.length_append]; rfl
      have zget : (its.map (·.2))[it0.length]? = some z.2 := by rw [e0]; simp
      have zlen := hs.len _ _ zget
      refine ⟨fun σ H1 => ∃ v5 v6 v7 ws Ls, nm.length + 1 - Ls.length < nm.length + 1 - its.length ∧ σ = [some (.ref p1), some (.ref p2), some (.ref d), some (.int most), some (.ref l), v5, v6, v7, none] ∧ Kp R H H1 ∧ H1 l = some (.lst ws) ∧ Paired (lotV H1) ws Ls ∧ HvS r1 r2 nm wt Ls ∧ 1 ≤ Ls.length ∧ (Ls.length : Int) ≤ most + 1, ?_, ?_⟩
      · rintro σ' H2 ⟨v5, v6, v7, ws, Ls, hlt, rfl, h⟩
        exact ⟨_, by rw [List.length_map]; exact hlt, v5, v6, v7, ws, Ls, rfl, rfl, h⟩
      refine ⟨_, rfl, _, rfl, l, _, -1, z.1, rfl, rfl, SqL.of (by rw [hl, e1]), atI_last, ?_⟩
      rw [ez]
      refine ⟨_, rfl, _, rfl, _, rfl, _, rfl, R, p1, p2, d, zt, nm, z.2, r1, r2, wt, rfl, k.w, hF.mono k, hG.mono k, k.at hd, hzt, hz.lot, hz.i1, hz.i2, hz.ext, fun H2 v k2 hv => ?_⟩
      have kk := k.trans k2
      refine ⟨_, rfl, rfl, _, rfl, ?_⟩
      rcases hv with ⟨rfl, hn⟩ | ⟨c, wl, rfl, hc', hg⟩
      · refine iteT ?_
        refine ⟨_, rfl, q H2 l _ _ kk nlH (k2.at hl) (L2.Paired.mapP pr fun v A h => h.mono k2) ⟨hs, hle, by rw [List.length_map]; exact h1, fun _ => ⟨z.2, ?_, hn⟩⟩⟩
        rw [List.length_map, elen]
        exact zget
      · refine iteF ?_
        have lz := lot_le hF.ss hz.lot
        have nw : wl.length ≤ nm.length := Bf.nodup_le hg.nd hg.sub
        have nJ : (srt (les z.2 wl ++ les wl z.2)).Nodup := (srt_ss (List.nodup_append.mpr ⟨(hz.lot.ss hF.ss).nodup.filter _, hg.nd.filter _, fun a ha b hb e => (mem_les.mp hb).2 (e ▸ (mem_les.mp ha).1)⟩)).nodup
        obtain ⟨j1, j2, j3, j4, j5⟩ := hg.grow (srt (les z.2 wl ++ les wl z.2)) nJ fun z' => by rw [mem_srt, List.mem_append, mem_les, mem_les]
        have hJ : Lot nm (srt (les z.2 wl ++ les wl z.2)) := lot_of hF.ss (up_ss (srt_up _) nJ) j4
        have lJ := lot_le hF.ss hJ
        have hzt2 := k2.at hzt
        refine ⟨_, rfl, zt, rfl, ⟨_, SqT.of hzt2⟩, fun D hD => ?_⟩
        refine lcN hD (src_tup (c := V.str) (its := z.2) hzt2) k2.w (by omega) (fun x => decide (x ∉ wl)) V.str (fun _ => rfl)
          (fun x hx H3 k3 QT q' => ⟨_, rfl, _, rfl, c, wl.map V.str, rfl, .inl (SqL.of (k3.at hc')), rfl, flat_strs _, _, rfl, by rw [inV_str]; simpa using q' H3 (Kp.refl k3.w)⟩)
          (fun x hx hT H3 k3 Q' q' => ⟨_, rfl, q' H3 (Kp.refl k3.w)⟩) fun H3 k3 e3 => ?_
        have e3' : H3 D = some (.lst ((les z.2 wl).map V.str)) := e3
        have k23 := k2.trans k3
        refine ⟨_, rfl, .inl ⟨rfl, _, SqL.of (k23.at hl)⟩, ?_⟩
        refine ⟨_, rfl, _, rfl, c, rfl, ⟨_, SqL.of (k3.at hc')⟩, fun D2 hD2 => ?_⟩
        refine lcN hD2 (src_lst (c := V.str) (its := wl) (k3.at hc')) k3.w (by omega) (fun x => decide (x ∉ z.2)) V.str (fun _ => rfl)
          (fun x hx H4 k4 QT q' => ⟨_, rfl, _, rfl, zt, z.2.map V.str, rfl, .inr (SqT.of ((k3.trans k4).at hzt2)), rfl, flat_strs _, _, rfl, by rw [inV_str]; simpa using q' H4 (Kp.refl k4.w)⟩)
          (fun x hx hT H4 k4 Q' q' => ⟨_, rfl, q' H4 (Kp.refl k4.w)⟩) fun H4 k4 e4 => ?_
        have e4' : H4 D2 = some (.lst ((les wl z.2).map V.str)) := e4
        have k24 := k23.trans k4
        have z1 : (les z.2 wl).length ≤ 8 := Nat.le_trans (List.length_filter_le _ _) (Nat.le_trans lz l8)
        have z2 : (les wl z.2).length ≤ 8 := Nat.le_trans (List.length_filter_le _ _) (Nat.le_trans nw l8)
        refine ⟨D, D2, _, _, rfl, rfl, k4.at e3', e4', ?_, fun y ny => ?_⟩
        · rw [List.length_map, List.length_map]
          exact Nat.le_trans (Nat.add_le_add z1 z2) (by decide)
        rw [← List.map_append]
        have k5 := k24.new ny (o := .lst ((les z.2 wl ++ les wl z.2).map V.str))
        refine ⟨y, les z.2 wl ++ les wl z.2, rfl, SqL.of upd_same, by rw [List.length_append]; omega, fun ys p hp hs' np => ?_⟩
        rw [sorted_is hp hs']
        have k6 := k5.new np (o := .lst ((srt (les z.2 wl ++ les wl z.2)).map V.str))
        refine ⟨p, _, rfl, .inl ⟨SqL.of upd_same, fun u nu => ?_⟩⟩
        have k7 := k6.new nu (o := .tup ((srt (les z.2 wl ++ les wl z.2)).map V.str))
        have k17 := k.trans k7
        refine ⟨l, _, _, rfl, rfl, k7.at hl, by rw [List.length_map, elen]; exact Nat.lt_of_le_of_lt (show it0.length + 1 ≤ 9 by omega) (by decide), ?_⟩
        refine ⟨_, _, _, its.map (·.1) ++ [V.ref u], its.map (·.2) ++ [srt (les z.2 wl ++ les wl z.2)], ?_, rfl, k17.mut nlH, upd_same, ?_, ⟨fun i A hi => ?_, fun A hA => ?_⟩, ?_, ?_⟩
        · rw [List.length_append, List.length_map, List.length_singleton]; omega
        · exact paired_app (L2.Paired.mapP pr fun v A h => (h.mono k7).updl (k7.at hl)) (.cons (lotV.updl (k7.at hl) ⟨u, rfl, upd_same⟩) .nil)
        · by_cases hi' : i < (its.map (·.2)).length
          · rw [List.getElem?_append_left hi'] at hi
            exact hs.len i A hi
          · rw [List.getElem?_append_right (by omega)] at hi
            have : i - (its.map (·.2)).length = 0 := by
              cases e : i - (its.map (·.2)).length with
              | zero => rfl
              | succ n => rw [e] at hi; cases hi
            rw [this] at hi
            have eA := Option.some.inj hi
            rw [← eA, j3, zlen]
            rw [List.length_map] at this hi'
            omega
        · rcases List.mem_append.mp hA with h | h
          · exact hs.hv A h
          · rw [List.mem_singleton.mp h]
            exact ⟨hJ, j1, j2, j5 hz.ext⟩
        · rw [List.length_append]; simp
        · rw [List.length_append, List.length_map, List.length_singleton]; omega
    · have hlm : ¬ (Ls.length : Int) ≤ most := fun z => hc (decide_eq_true (by rw [lws]; exact z))
      exact ⟨_, rfl, q H1 l ws Ls k nlH hl pr ⟨hs, hle, h1, fun z => absurd z hlm⟩⟩
end
end Bw
set_option Elab.async false
set_option linter.all false
set_option pp.maxSteps 300
set_option maxRecDepth 100000
set_option maxHeartbeats 4000000
/-! split.py: what its users call -/
namespace Bw
open PySem PySem.Spec PyProof.Rows L2 Bt Bs Bm
section
variable {P : Program} {w : World} {K : PySem.W.Frag} {mg : Str → Option Value} {base : Heap}
theorem atI_nat {α : Type} {l : List α} {k : Nat} (h : k < l.length) : atI l (k : Int) = l[k]? := by
  have e : ixN l.length (k : Int) = some k := by
    unfold ixN
    rw [if_pos (by omega), if_pos (by omega), Int.toNat_natCast]
  unfold atI
  rw [e]; rfl
theorem mx_nm {r1 r2 : List Str → Nat} {nm : List Str} (R1 : Bf.IsRk r1) : mx r1 r2 nm ≤ nm.length := mx_le fun B s b1 b2 => Bf.nodup_le (b1.nodup R1) s
def LotV (r1 r2 : List Str → Nat) (nm : List Str) (wt : Str → Int) (k : Nat) (H : Hp) (v : V) : Prop := (v = .non ∧ mx r1 r2 nm < k) ∨ ∃ q A, v = .ref q ∧ H q = some (.tup (A.map V.str)) ∧ HvL r1 r2 nm wt A ∧ A.length = k
def spLotOf (K : PySem.W.Frag) : Sp := fun vs H Q _ => ∃ (R : Reg) (p1 p2 d : Addr) (nm : List Str) (r1 r2 : List Str → Nat) (wt : Str → Int) (k : Nat), vs = [.ref p1, .ref p2, .ref d, .int k] ∧ WInv R H ∧ FamS K R H p1 nm r1 ∧ FamS K R H p2 nm r2 ∧ H d = some (.dK (wtD nm wt)) ∧
  ∀ H' v, Kp R H H' → LotV r1 r2 nm wt k H' v → Q v H'
abbrev N_lot_of : List Str := ["one", "other", "weights", "k", "found"]
theorem sc_lot_of : FnScope N_lot_of ["one", "other", "weights", "k"] (defScope s_lot_of) := ⟨rfl, rfl, rfl, by decide +kernel, rfl, by decide +kernel, by decide +kernel⟩
theorem c_lot_of (T : Txt K mg) : Call P w K mg base 11 "lot_of" ["one", "other", "weights", "k"] (spLotOf K) := by
  refine mkCall T.d_lot_of sc_lot_of (fun _ _ _ _ _ _ us hl => match us, hl with | [_, _, _, _], _ => rfl) (fun vs H Q E h => ?_) (fun cdv A outer s H vs Q E hr h => ?_)
  · obtain ⟨R, p1, p2, d, nm, r1, r2, wt, k, rfl, _⟩ := h; rfl
  · obtain ⟨R, p1, p2, d, nm, r1, r2, wt, k, rfl, wi, hF, hG, hd, q⟩ := h
    refine ⟨_, (pss_cons (ps_if (pt_cmpR op_gt (pv 3) (pe_callB (call_lenI T hr) (by rfl) T.f_len bt_len (pa_cons (pv 0) pa_nil)) (nomark _)) (pss_one (ps_ret pe_non)) pss_nil)
      (pss_cons (ps_set (i := 4) sc_lot_of.nd rfl (Or.inl rfl) (pe_f (c_heaviest_lots T) hr (pa_cons (pv 0) (pa_cons (pv 1) (pa_cons (pv 2) (pa_cons (pv 3) pa_nil))))))
      (pss_one (ps_ret (pe_ifExp (pt_cmpR op_gt (pe_callB call_len_seq (by rfl) T.f_len bt_len (pa_cons (pv 4) pa_nil)) (pv 3) (nomark _)) (pe_ix ix_list (pv 4) (pv 3) (fun _ _ => rfl)) pe_non))))), ?_⟩
    refine ⟨_, rfl, _, rfl, R, p1, nm, r1, rfl, hF, _, _, rfl, rfl, _, rfl, ?_⟩
    refine ite2 (fun hc => ?_) (fun hc => ?_)
    · have hk : nm.length < k := by have := of_decide_eq_true hc; omega
      exact q H _ (Kp.refl wi) (.inl ⟨rfl, Nat.lt_of_le_of_lt (mx_nm hF.rk) hk⟩)
    · refine ⟨_, rfl, _, rfl, _, rfl, _, rfl, R, p1, p2, d, nm, r1, r2, wt, k, rfl, wi, hF, hG, hd, by omega, fun H1 l vs Ls k1 nl hl pr he => ?_⟩
      have lv : vs.length = Ls.length := pr.length
      refine ⟨_, rfl, l, _, rfl, .inl (SqL.of hl), _, rfl, _, _, rfl, rfl, _, rfl, ?_⟩
      refine ite2 (fun hc => ?_) (fun hc => ?_)
      · have hk : k < vs.length := by have := of_decide_eq_true hc; omega
        obtain ⟨its, rfl, rfl, hits⟩ := paired_zip pr
        rw [List.length_map] at hk
        have hin : its[k] ∈ its := List.getElem_mem hk
        have g1 : (its.map (·.1))[k]? = some its[k].1 := by rw [List.getElem?_map, List.getElem?_eq_getElem hk]; rfl
        have g2 : (its.map (·.2))[k]? = some its[k].2 := by rw [List.getElem?_map, List.getElem?_eq_getElem hk]; rfl
        obtain ⟨t, et, ht⟩ := hits _ hin
        refine ⟨_, rfl, _, rfl, l, _, (k : Int), its[k].1, rfl, rfl, SqL.of hl, by rw [atI_nat (by rw [List.length_map]; exact hk)]; exact g1, ?_⟩
        exact q H1 _ k1 (.inr ⟨t, its[k].2, et, ht, he.s.hv _ (List.mem_map.mpr ⟨_, hin, rfl⟩), he.s.len k _ g2⟩)
      · have hk : ¬ k < vs.length := fun z => hc (decide_eq_true (by omega))
        obtain ⟨A, hA, hn⟩ := he.no (by omega)
        have hv := he.s.hv A (List.mem_of_getElem? hA)
        have hlen := he.s.len _ A hA
        have := mx_eq hF.rk hG.rk hv.lot hv.i1 hv.i2 hn
        have := he.ne
        exact q H1 _ k1 (.inl ⟨rfl, by omega⟩)
def BestV (r1 r2 : List Str → Nat) (nm : List Str) (wt : Str → Int) (k : Nat) (H : Hp) (v : V) : Prop := (v = .non ∧ mx r1 r2 nm < k) ∨ ∃ t l A, v = .ref t ∧ H t = some (.tup [.int (A.map wt).sum, .ref l]) ∧ H l = some (.lst (A.map V.str)) ∧ HvL r1 r2 nm wt A ∧ A.length = k
def spBest (K : PySem.W.Frag) : Sp := fun vs H Q _ => ∃ (R : Reg) (p1 p2 d : Addr) (nm : List Str) (r1 r2 : List Str → Nat) (wt : Str → Int) (k : Nat), vs = [.ref p1, .ref p2, .ref d, .int k] ∧ WInv R H ∧ FamS K R H p1 nm r1 ∧ FamS K R H p2 nm r2 ∧ H d = some (.dK (wtD nm wt)) ∧
  ∀ H' v, Kp R H H' → BestV r1 r2 nm wt k H' v → Q v H'
abbrev N_heaviest_both : List Str := ["one", "other", "weights", "k", "lot"]
theorem sc_heaviest_both : FnScope N_heaviest_both ["one", "other", "weights", "k"] (defScope s_heaviest_both) := ⟨rfl, rfl, rfl, by decide +kernel, rfl, by decide +kernel, by decide +kernel⟩
theorem c_heaviest_both (T : Txt K mg) : Call P w K mg base 12 "heaviest_both" ["one", "other", "weights", "k"] (spBest K) := by
  refine mkCall T.d_heaviest_both sc_heaviest_both (fun _ _ _ _ _ _ us hl => match us, hl with | [_, _, _, _], _ => rfl) (fun vs H Q E h => ?_) (fun cdv A outer s H vs Q E hr h => ?_)
  · obtain ⟨R, p1, p2, d, nm, r1, r2, wt, k, rfl, _⟩ := h; rfl
  · obtain ⟨R, p1, p2, d, nm, r1, r2, wt, k, rfl, wi, hF, hG, hd, q⟩ := h
    have l8 := hF.l8
    refine ⟨_, (pss_cons (ps_expr (pe_f (c_need_both T) hr (pa_cons (pv 0) (pa_cons (pv 1) (pa_cons (pv 2) pa_nil)))))
      (pss_cons (ps_expr (pe_f (c_need_number T) hr (pa_cons (pv 3) pa_nil)))
      (pss_cons (ps_set (i := 4) sc_heaviest_both.nd rfl (Or.inl rfl) (pe_f (c_lot_of T) hr (pa_cons (pv 0) (pa_cons (pv 1) (pa_cons (pv 2) (pa_cons (pv 3) pa_nil))))))
      (pss_one (ps_ret (pe_ifExp (pt_cmpR op_isN (pv 4) pe_non (nomark _)) pe_non (pe_tup (pa_cons (pe_f (c_total_weight T) hr (pa_cons (pv 2) (pa_cons (pv 4) pa_nil))) (pa_cons (pe_callTy call_list_of (by rfl) T.f_list bt_list (pa_cons (pv 4) pa_nil)) pa_nil))))))))), ?_⟩
    refine ⟨_, rfl, _, rfl, _, rfl, R, p1, p2, d, nm, r1, r2, wt, rfl, wi, hF, hG, hd, fun H1 k1 => ?_⟩
    refine ⟨_, rfl, (k : Int), rfl, by omega, ?_⟩
    refine ⟨_, rfl, _, rfl, _, rfl, _, rfl, R, p1, p2, d, nm, r1, r2, wt, k, rfl, k1.w, hF.mono k1, hG.mono k1, k1.at hd, fun H2 v k2 hv => ?_⟩
    have k12 := k1.trans k2
    refine ⟨_, rfl, rfl, _, rfl, ?_⟩
    rcases hv with ⟨rfl, hm⟩ | ⟨t, A, rfl, ht, hA, lA⟩
    · exact iteT (q H2 _ k12 (.inl ⟨rfl, hm⟩))
    · have la := lot_le hF.ss hA.lot
      refine iteF ⟨_, rfl, _, rfl, R, d, t, nm, A, wt, rfl, k2.w, k12.at hd, ht, fun x hx => hA.lot.sub hx, by omega, fun H3 k3 => ?_⟩
      refine ⟨_, rfl, t, _, rfl, .inr (SqT.of (k3.at ht)), fun l nl => ?_⟩
      have kl := Kp.upd k3.w nl (o := .lst (A.map V.str))
      refine ⟨by show 2 ≤ sizeLine; decide, fun g ng => ?_⟩
      have kg := Kp.upd kl.w ng (o := .tup [.int (A.map wt).sum, .ref l])
      exact q _ _ (((k12.trans k3).trans kl).trans kg) (.inr ⟨g, l, A, rfl, upd_same, kg.at upd_same, hA, lA⟩)
def spCurve (K : PySem.W.Frag) : Sp := fun vs H Q _ => ∃ (R : Reg) (p1 p2 d : Addr) (nm : List Str) (r1 r2 : List Str → Nat) (wt : Str → Int), vs = [.ref p1, .ref p2, .ref d] ∧ WInv R H ∧ FamS K R H p1 nm r1 ∧ FamS K R H p2 nm r2 ∧ H d = some (.dK (wtD nm wt)) ∧
  ∀ H' l ys, Kp R H H' → H' l = some (.lst ys) → ys.length = mx r1 r2 nm + 1 → Q (.ref l) H'
abbrev N_curve : List Str := ["one", "other", "weights", "lot"]
theorem sc_curve : FnScope N_curve ["one", "other", "weights"] (defScope s_curve) := ⟨rfl, rfl, rfl, by decide +kernel, rfl, by decide +kernel, by decide +kernel⟩
theorem c_curve (T : Txt K mg) : Call P w K mg base 11 "curve" ["one", "other", "weights"] (spCurve K) := by
  refine mkCall T.d_curve sc_curve (fun _ _ _ _ _ _ us hl => match us, hl with | [_, _, _], _ => rfl) (fun vs H Q E h => ?_) (fun cdv A outer s H vs Q E hr h => ?_)
  · obtain ⟨R, p1, p2, d, nm, r1, r2, wt, rfl, _⟩ := h; rfl
  · obtain ⟨R, p1, p2, d, nm, r1, r2, wt, rfl, wi, hF, hG, hd, q⟩ := h
    have l8 := hF.l8
    refine ⟨_, (pss_cons (ps_expr (pe_f (c_need_both T) hr (pa_cons (pv 0) (pa_cons (pv 1) (pa_cons (pv 2) pa_nil)))))
      (pss_one (ps_ret (pe_lc (own := [("lot", 3)]) (by rfl) sc_curve.nd (pi_list (pe_f (c_heaviest_lots T) hr (pa_cons (pv 0) (pa_cons (pv 1) (pa_cons (pv 2) (pa_cons (pe_callB (call_lenI T hr) (by rfl) T.f_len bt_len (pa_cons (pv 0) pa_nil)) pa_nil)))))) (blkOk_by (own := [("lot", 3)]) (N := N_curve) (sc := defScope s_curve) (by decide +kernel)) (fun _ _ _ _ _ => (pg_name (i := 3) sc_curve.nd rfl (by first | exact Or.inl rfl | exact Or.inr rfl))) (fun _ _ _ _ _ => pts_nil) (fun _ _ _ _ _ => (pe_f (c_total_weight T) hr (pa_cons (pv 2) (pa_cons (pv 3) pa_nil)))))))), ?_⟩
    refine ⟨_, rfl, _, rfl, _, rfl, R, p1, p2, d, nm, r1, r2, wt, rfl, wi, hF, hG, hd, fun H1 k1 => ?_⟩
    refine ⟨_, rfl, _, rfl, _, rfl, _, rfl, R, p1, nm, r1, rfl, hF.mono k1, ?_⟩
    refine ⟨R, p1, p2, d, nm, r1, r2, wt, (nm.length : Int), rfl, k1.w, hF.mono k1, hG.mono k1, k1.at hd, by omega, fun H2 l vs Ls k2 nl hl pr he => ?_⟩
    have k12 := k1.trans k2
    have lv : vs.length = Ls.length := pr.length
    have lle := he.le
    have hlen : Ls.length = mx r1 r2 nm + 1 := by
      have hne := he.ne
      by_cases h : (Ls.length : Int) ≤ (nm.length : Int)
      · obtain ⟨A, hA, hn⟩ := he.no h
        have hv := he.s.hv A (List.mem_of_getElem? hA)
        have hl := he.s.len _ A hA
        have := mx_eq hF.rk hG.rk hv.lot hv.i1 hv.i2 hn
        omega
      · have hk : Ls.length - 1 < Ls.length := by omega
        have hA := List.getElem?_eq_getElem hk
        have hv := he.s.hv _ (List.getElem_mem hk)
        have hl := he.s.len _ _ hA
        have := le_mx hv.lot hv.i1 hv.i2
        have := mx_nm (r2 := r2) (nm := nm) hF.rk
        omega
    obtain ⟨its, rfl, rfl, hits⟩ := paired_zip pr
    rw [List.length_map] at hlen lle
    refine ⟨l, rfl, ⟨_, SqL.of hl⟩, fun D hD => ?_⟩
    refine lcA hD (src_lst (c := (·.1)) (its := its) hl) k2.w (by omega) (fun x => .int (x.2.map wt).sum) (fun _ => rfl) (fun x hx H3 k3 Q' q' => ?_) fun H3 k3 e => ?_
    · obtain ⟨t, et, ht⟩ := hits x hx
      have hv := he.s.hv x.2 (List.mem_map.mpr ⟨x, hx, rfl⟩)
      have := lot_le hF.ss hv.lot
      rw [et]
      exact ⟨_, rfl, _, rfl, R, d, t, nm, x.2, wt, rfl, k3.w, (k12.trans k3).at hd, k3.at ht, fun y hy => hv.lot.sub hy, by omega, fun H4 k4 => q' H4 k4⟩
    · exact q H3 D _ (k12.trans k3) e (by rw [List.length_map]; exact hlen)
def spFreeIn (K : PySem.W.Frag) : Sp := fun vs H Q _ => ∃ (R : Reg) (p l : Addr) (nm A : List Str) (r : List Str → Nat), vs = [.ref p, .ref l] ∧ WInv R H ∧ FamS K R H p nm r ∧ H l = some (.lst (A.map V.str)) ∧ A.Nodup ∧ (∀ x, x ∈ A → x ∈ nm) ∧ Bf.Ind r A ∧ ∀ H', Kp R H H' → Q (.bl true) H'
abbrev N_is_free_in : List Str := ["family", "lot"]
theorem sc_is_free_in : FnScope N_is_free_in ["family", "lot"] (defScope s_is_free_in) := ⟨rfl, rfl, rfl, by decide +kernel, rfl, by decide +kernel, by decide +kernel⟩
theorem c_is_free_in (T : Txt K mg) : Call P w K mg base 7 "is_free_in" ["family", "lot"] (spFreeIn K) := by
  obtain ⟨fr, F_c_Family_rank_of, b_c_Family_rank_of⟩ := (c_rank_of (P := P) (w := w) (base := base) T).ex
  refine mkCall T.d_is_free_in sc_is_free_in (fun _ _ _ _ _ _ us hl => match us, hl with | [_, _], _ => rfl) (fun vs H Q E h => ?_) (fun cdv A outer s H vs Q E hr h => ?_)
  · obtain ⟨R, p, l, nm, A, r, rfl, _⟩ := h; rfl
  · obtain ⟨R, p, l, nm, As, r, rfl, wi, hF, hl, nd, sub, ind, q⟩ := h
    have l8 := hF.l8
    have lA := Bf.nodup_le nd sub
    obtain ⟨dx, a, o, d, g, _⟩ := hF.nmA
    refine ⟨_, (pss_one (ps_ret (pe_cmpR op_eq (pe_meth (pv 0) T.c_Family T.h_Family_rank_of F_c_Family_rank_of (hr.mono (by decide)) b_c_Family_rank_of .nil pass0 (pa_cons (pe_callTy call_tuple_of (by rfl) T.f_tuple bt_tuple (pa_cons (pe_callB cr_sortedS (by rfl) T.f_sorted bt_sorted (pa_cons (pv 1) pa_nil)) pa_nil)) pa_nil)) (pe_callB call_len_seq (by rfl) T.f_len bt_len (pa_cons (pv 1) pa_nil)) (nomark _)))), ?_⟩
    refine ⟨_, rfl, p, dx, _, rfl, g, rfl, _, rfl, l, As, rfl, SqL.of hl, by omega, fun ys p' hp hs np => ?_⟩
    rw [sorted_is hp hs]
    have k1 := Kp.upd wi np (o := .lst ((srt As).map V.str))
    refine ⟨p', _, rfl, .inl ⟨SqL.of upd_same, fun t nt => ?_⟩⟩
    have k2 := k1.new nt (o := .tup ((srt As).map V.str))
    refine ⟨R, p, t, nm, srt As, r, rfl, k2.w, hF.mono k2, upd_same, lot_of hF.ss (srt_ss nd) (fun x hx => sub x (mem_srt.mp hx)), fun H3 k3 => ?_⟩
    refine ⟨_, rfl, l, _, rfl, .inl (SqL.of ((k2.trans k3).at hl)), rfl, ?_⟩
    rw [List.length_map]
    have e : r (srt As) = As.length := (hF.rk.ext _ _ fun x => mem_srt).trans ind
    rw [e]
    show Q (.bl (decide (V.int ((As.length : Nat) : Int) = V.int ((As.length : Nat) : Int)))) H3
    rw [dec_int, decide_eq_true rfl]
    exact q H3 (k2.trans k3)
def spParts : Sp := fun vs H Q _ => ∃ (R : Reg) (a d f g : Addr) (nm : List Str) (wt wf wg : Str → Int), vs = [.ref a, .ref d, .ref f, .ref g] ∧ WInv R H ∧ H a = some (.tup (nm.map V.str)) ∧ H d = some (.dK (wtD nm wt)) ∧ H f = some (.dK (wtD nm wf)) ∧ H g = some (.dK (wtD nm wg)) ∧ (∀ x, wf x + wg x = wt x) ∧ nm.Nodup ∧ nm.length ≤ 8 ∧
  ∀ H', Kp R H H' → Q .non H'
abbrev N_parts_fault : List Str := ["names", "weights", "first", "second", "part", "thing"]
theorem sc_parts_fault : FnScope N_parts_fault ["names", "weights", "first", "second"] (defScope s_parts_fault) := ⟨rfl, rfl, rfl, by decide +kernel, rfl, by decide +kernel, by decide +kernel⟩
theorem c_parts_fault (T : Txt K mg) : Call P w K mg base 2 "parts_fault" ["names", "weights", "first", "second"] spParts := by
  refine mkCall T.d_parts_fault sc_parts_fault (fun _ _ _ _ _ _ us hl => match us, hl with | [_, _, _, _], _ => rfl) (fun vs H Q E h => ?_) (fun cdv A outer s H vs Q E hr h => ?_)
  · obtain ⟨R, a, d, f, g, nm, wt, wf, wg, rfl, _⟩ := h; rfl
  · obtain ⟨R, a, d, f, g, nm, wt, wf, wg, rfl, wi, ha, hd, hf, hg, hs, nd, l8, q⟩ := h
    have hu := hu_of hr
    refine ⟨_, (pss_cons (ps_for PassesOwn.never rfl (pi_tup (pe_tup (pa_cons (pv 2) (pa_cons (pv 3) pa_nil)))) (pg_name (i := 4) sc_parts_fault.nd rfl (by first | exact Or.inl rfl | exact Or.inr rfl)) (pss_one (ps_if (PW.pt (pw_or (pt_not (pt_val (pe_callB call_isi (by rfl) T.f_isinstance bt_isinstance (pa_cons (pv 4) (pa_cons (pe_bltn (v := .ty "dict") (by rfl) T.f_dict bt_dict rfl) pa_nil))))) (pw_or1 (pt_not (pt_val (pe_callB (cr_all rfl) (by rfl) T.f_all bt_all (pa_cons (pe_lock (pe_lc (own := [("thing", 5)]) (by rfl) sc_parts_fault.nd (pi_keys (pv 4)) (blkOk_by (own := [("thing", 5)]) (N := N_parts_fault) (sc := defScope s_parts_fault) (by decide +kernel)) (fun _ _ _ _ _ => (pg_name (i := 5) sc_parts_fault.nd rfl (by first | exact Or.inl rfl | exact Or.inr rfl))) (fun _ _ _ _ _ => pts_nil) (fun _ _ _ _ _ => (pe_cmpR (show OpR _ _ (rIn K false) from op_in_seq) (pv 5) (pv 0) (by rfl))))) pa_nil))))))) (pss_one (ps_ret pe_str)) pss_nil)))
      (pss_cons (ps_for PassesOwn.never rfl (pi_tup (pv 0)) (pg_name (i := 5) sc_parts_fault.nd rfl (by first | exact Or.inl rfl | exact Or.inr rfl)) (pss_cons (ps_if (PW.pt (pw_or (pt_cmp (pc_dnotin hu (pv 5) (pv 2))) (pw_or (pt_cmp (pc_dnotin hu (pv 5) (pv 3))) (pw_or (pt_not (pt_val (pe_f (c_is_integer T) hr (pa_cons (pe_dget hu (pv 2) (pv 5) (fun _ _ => rfl)) pa_nil)))) (pw_or1 (pt_not (pt_val (pe_f (c_is_integer T) hr (pa_cons (pe_dget hu (pv 3) (pv 5) (fun _ _ => rfl)) pa_nil))))))))) (pss_one (ps_ret (pv 5))) pss_nil)
      (pss_one (ps_if (pt_cmpR op_ne (pe_op op_add (pe_dget hu (pv 2) (pv 5) (fun _ _ => rfl)) (pe_dget hu (pv 3) (pv 5) (fun _ _ => rfl))) (pe_dget hu (pv 1) (pv 5) (fun _ _ => rfl)) (nomark _)) (pss_one (ps_ret (pv 5))) pss_nil))))
      (pss_one (ps_ret pe_non)))), ?_⟩
    refine ⟨_, rfl, _, rfl, by show 2 ≤ sizeLine; decide, fun c nc => ?_⟩
    have k1 := Kp.upd wi nc (o := .tup [V.ref f, V.ref g])
    refine ⟨c, rfl, ⟨_, SqT.of upd_same⟩, ?_⟩
    refine forG (G := fun H1 => H1 c = some (.tup [V.ref f, V.ref g])) (src_tupG (c := fun x : Addr × (Str → Int) => V.ref x.1) (its := [(f, wf), (g, wg)]) fun _ g => g)
      (fun i σ H1 => ∃ v4 v5, σ = [some (.ref a), some (.ref d), some (.ref f), some (.ref g), v4, v5] ∧ Kp R H H1 ∧ H1 c = some (.tup [V.ref f, V.ref g]))
      (fun i σ H1 ⟨_, _, _, _, g⟩ => g) ⟨none, none, rfl, k1, upd_same⟩ ?_ ?_
    · rintro i ⟨x, wx⟩ σ H1 hx ⟨v4, v5, rfl, k, hc⟩
      have hx1 : H1 x = some (.dK (wtD nm wx)) := by
        rcases List.mem_cons.mp (List.mem_of_getElem? hx) with z | z
        · cases z; exact k.at hf
        · cases List.mem_singleton.mp z; exact k.at hg
      refine ⟨_, rfl, _, _, _, _, _, rfl, .ty _, .base (.dK hx1), k_dd, true, rfl, iteF ?_⟩
      refine ⟨x, _, hx1, trivial, fun od => ?_⟩
      have kl := Kp.lock (od := od) k.w hx1
      refine ⟨_, rfl, x, od, rfl, .inl ⟨_, upd_same, fun D hD => ?_⟩⟩
      have ha2 : (upd H1 x (.frz od (.dK (wtD nm wx)))) a = some (.tup (nm.map V.str)) := by rw [upd_ne (fun z => by rw [z] at ha; have := k.at ha; rw [hx1] at this; cases this)]; exact k.at ha
      refine lcA hD (src_keys (R := R) upd_same) kl (by rw [dfn_len]; omega) (fun _ => .bl true) (fun _ => rfl) (fun kv hkv H2 k2 Q' q' => ?_) fun H2 k2 e => ?_
      · obtain ⟨y, hy, rfl⟩ := List.mem_map.mp hkv
        refine ⟨_, rfl, _, rfl, a, nm.map V.str, rfl, .inr (SqT.of (k2.at ha2)), rfl, flat_strs _, ?_⟩
        show Q' (.bl (if false = true then _ else inV (.str y) (nm.map V.str))) H2
        rw [if_neg Bool.false_ne_true, inV_str, decide_eq_true hy]
        exact q' H2 (Kp.refl k2.w)
      · refine ⟨k2.at upd_same, ?_⟩
        have ku := Kp.unlock k.w hx1 k2
        have nDx : D ≠ x := fun z => by rw [z, upd_same] at hD; cases hD
        refine ⟨D, (DFn nm fun t => V.int (wx t)).map fun _ => true, rfl, SqL.of (by rw [upd_ne nDx, e, List.map_map]; rfl), true, congrArg V.bl ?_, iteF ⟨_, _, rfl, k.trans ku, ku.at hc⟩⟩
        rw [List.all_map, List.all_eq_true]; intro _ _; rfl
    · rintro σ H1 ⟨v4, v5, rfl, k, hc⟩
      refine ⟨_, rfl, a, rfl, ⟨_, SqT.of (k.at ha)⟩, ?_⟩
      refine forG (G := fun H1 => H1 a = some (.tup (nm.map V.str))) (src_tupG (c := V.str) (its := nm) fun _ g => g)
        (fun i σ H1 => ∃ v5, σ = [some (.ref a), some (.ref d), some (.ref f), some (.ref g), v4, v5] ∧ Kp R H H1)
        (fun i σ H1 ⟨_, _, k⟩ => k.at ha) ⟨v5, rfl, k⟩ ?_ ?_
      · rintro i x σ H2 hx ⟨v5, rfl, k2⟩
        have hxn : x ∈ nm := List.mem_of_getElem? hx
        have gf := wt_get (k2.at hf) hxn
        have gg := wt_get (k2.at hg) hxn
        refine ⟨_, rfl, _, rfl, f, _, rfl, gf, _, rfl, iteF ?_⟩
        refine ⟨_, rfl, _, rfl, g, _, rfl, gg, _, rfl, iteF ?_⟩
        refine ⟨_, rfl, _, rfl, f, _, rfl, gf, wf x, rfl, true, rfl, iteF ?_⟩
        refine ⟨_, rfl, _, rfl, g, _, rfl, gg, wg x, rfl, true, rfl, iteF ?_⟩
        refine ⟨_, rfl, _, rfl, f, _, rfl, gf, _, rfl, _, rfl, g, _, rfl, gg, _, _, rfl, rfl, ?_⟩
        refine ⟨_, rfl, _, rfl, d, _, rfl, wt_get (k2.at hd) hxn, rfl, _, rfl, ?_⟩
        have e : (!decide (V.int (wf x + wg x) = V.int (wt x))) = false := by rw [hs x, decide_eq_true rfl]; rfl
        dsimp only
        rw [e]
        exact iteF ⟨_, rfl, k2⟩
      · rintro σ H2 ⟨v5, rfl, k2⟩
        exact q H2 k2
/-- no trade makes the lot heavier -/
def NoTrade (r : List Str → Nat) (nm A : List Str) (wf : Str → Int) : Prop := ∀ y x, (y, x) ∈ trd r nm (srt A) → wf x ≤ wf y
def TradeV (r : List Str → Nat) (nm A : List Str) (wf : Str → Int) (H : Hp) (v : V) : Prop := (v = .non ∧ NoTrade r nm A wf) ∨ ∃ t a b, v = .ref t ∧ H t = some (.tup [.str a, .str b]) ∧ ¬ NoTrade r nm A wf
def spTradeFault (K : PySem.W.Frag) : Sp := fun vs H Q _ => ∃ (R : Reg) (p l f : Addr) (nm A : List Str) (r : List Str → Nat) (wf : Str → Int), vs = [.ref p, .ref l, .ref f] ∧ WInv R H ∧ FamS K R H p nm r ∧ H l = some (.lst (A.map V.str)) ∧ H f = some (.dK (wtD nm wf)) ∧ A.Nodup ∧ (∀ x, x ∈ A → x ∈ nm) ∧
  ∀ H' v, Kp R H H' → TradeV r nm A wf H' v → Q v H'
abbrev N_trade_fault : List Str := ["family", "lot", "part", "gone", "thing"]
theorem sc_trade_fault : FnScope N_trade_fault ["family", "lot", "part"] (defScope s_trade_fault) := ⟨rfl, rfl, rfl, by decide +kernel, rfl, by decide +kernel, by decide +kernel⟩
theorem c_trade_fault (T : Txt K mg) : Call P w K mg base 8 "trade_fault" ["family", "lot", "part"] (spTradeFault K) := by
  refine mkCall T.d_trade_fault sc_trade_fault (fun _ _ _ _ _ _ us hl => match us, hl with | [_, _, _], _ => rfl) (fun vs H Q E h => ?_) (fun cdv A outer s H vs Q E hr h => ?_)
  · obtain ⟨R, p, l, f, nm, A, r, wf, rfl, _⟩ := h; rfl
  · obtain ⟨R, p, l, f, nm, As, r, wf, rfl, wi, hF, hl, hf, nd, sub, q⟩ := h
    have hu := hu_of hr
    have l8 := hF.l8
    have lA := Bf.nodup_le nd sub
    have hLot : Lot nm (srt As) := lot_of hF.ss (srt_ss nd) (fun x hx => sub x (mem_srt.mp hx))
    refine ⟨_, (pss_cons (ps_for PassesOwn.never rfl (pi_list (pe_f (c_trades T) hr (pa_cons (pv 0) (pa_cons (pe_callTy call_tuple_of (by rfl) T.f_tuple bt_tuple (pa_cons (pe_callB cr_sortedS (by rfl) T.f_sorted bt_sorted (pa_cons (pv 1) pa_nil)) pa_nil)) pa_nil)))) (pg_tup (by rfl) (pgs_cons (pg_name (i := 3) sc_trade_fault.nd rfl (by first | exact Or.inl rfl | exact Or.inr rfl)) (pgs_cons (pg_name (i := 4) sc_trade_fault.nd rfl (by first | exact Or.inl rfl | exact Or.inr rfl)) pgs_nil))) (pss_one (ps_if (pt_cmpR op_gt (pe_dget hu (pv 2) (pv 4) (fun _ _ => rfl)) (pe_dget hu (pv 2) (pv 3) (fun _ _ => rfl)) (nomark _)) (pss_one (ps_ret (pe_tup (pa_cons (pv 3) (pa_cons (pv 4) pa_nil))))) pss_nil)))
      (pss_one (ps_ret pe_non))), ?_⟩
    refine ⟨_, rfl, _, rfl, l, As, rfl, SqL.of hl, by omega, fun ys p' hp hs np => ?_⟩
    rw [sorted_is hp hs]
    have k1 := Kp.upd wi np (o := .lst ((srt As).map V.str))
    refine ⟨p', _, rfl, .inl ⟨SqL.of upd_same, fun t nt => ?_⟩⟩
    have k2 := k1.new nt (o := .tup ((srt As).map V.str))
    refine ⟨R, p, t, nm, srt As, r, rfl, k2.w, hF.mono k2, upd_same, hLot, fun H3 l3 ps k3 nl3 hl3 pr => ?_⟩
    have k13 := k2.trans k3
    obtain ⟨its, rfl, ei, hits⟩ := paired_zip pr
    refine ⟨l3, rfl, ⟨_, SqL.of hl3⟩, ?_⟩
    refine forG (G := fun H4 => H4 l3 = some (.lst (its.map (·.1)))) (src_lstG (c := (·.1)) (its := its) fun _ g => g)
      (fun i σ H4 => ∃ v3 v4, σ = [some (.ref p), some (.ref l), some (.ref f), v3, v4] ∧ Kp R H3 H4 ∧ ∀ x, x ∈ its.take i → wf x.2.2 ≤ wf x.2.1)
      (fun i σ H4 ⟨_, _, _, k, _⟩ => k.at hl3) ⟨none, none, rfl, Kp.refl k3.w, fun x hx => by cases hx⟩ ?_ ?_
    · rintro i x σ H4 hx ⟨v3, v4, rfl, k4, hb⟩
      have hxm := List.mem_of_getElem? hx
      obtain ⟨tt, et, htt⟩ := hits x hxm
      have hxt : x.2 ∈ trd r nm (srt As) := by rw [ei]; exact List.mem_map.mpr ⟨x, hxm, rfl⟩
      obtain ⟨m1, m2, m3, m4⟩ := mem_trd.mp hxt
      have k14 := k13.trans k4
      rw [et]
      refine ⟨tt, _, rfl, SqT.of (k4.at htt), rfl, _, _, rfl, _, _, rfl, rfl, ?_⟩
      refine ⟨_, rfl, _, rfl, f, _, rfl, wt_get (k14.at hf) m2, _, rfl, _, rfl, f, _, rfl, wt_get (k14.at hf) (hLot.sub m1), _, _, rfl, rfl, _, rfl, ?_⟩
      refine ite2 (fun hc => ?_) (fun hc => ?_)
      · have hlt := of_decide_eq_true hc
        refine ⟨_, rfl, _, rfl, by show 2 ≤ sizeLine; decide, fun z nz => ?_⟩
        exact q _ _ (k14.new nz) (.inr ⟨z, _, _, rfl, upd_same, fun hn => absurd (hn x.2.1 x.2.2 hxt) (by omega)⟩)
      · have hlt : ¬ _ < _ := fun z => hc (decide_eq_true z)
        refine ⟨_, _, rfl, k4, fun y hy => ?_⟩
        rw [take_succ_at hx] at hy
        rcases List.mem_append.mp hy with z | z
        · exact hb y z
        · rw [List.mem_singleton.mp z]; omega
    · rintro σ H4 ⟨v3, v4, rfl, k4, hb⟩
      rw [List.take_length] at hb
      refine q H4 _ (k13.trans k4) (.inl ⟨rfl, fun y x hyx => ?_⟩)
      rw [ei] at hyx
      obtain ⟨z, hz, ez⟩ := List.mem_map.mp hyx
      have := hb z hz
      rw [ez] at this
      exact this
end
end Bw
set_option Elab.async false
set_option linter.all false
set_option pp.maxSteps 300
set_option maxRecDepth 100000
set_option maxHeartbeats 4000000
/-! split.py: splits -/
namespace Bm
open PySem PySem.Spec PyProof.Rows Bs Bf
theorem sum_le {α : Type} {f g : α → Nat} : ∀ {l : List α}, (∀ x, x ∈ l → f x ≤ g x) → (l.map f).sum ≤ (l.map g).sum
  | [], _ => Nat.le_refl _
  | a :: l, h => by
    have h1 := h a List.mem_cons_self
    have h2 := sum_le (l := l) fun x hx => h x (List.mem_cons_of_mem _ hx)
    rw [List.map_cons, List.map_cons, List.sum_cons, List.sum_cons]
    omega
theorem sum_lt {α : Type} {f g : α → Nat} : ∀ {l : List α}, (∀ x, x ∈ l → f x ≤ g x) → (∃ x, x ∈ l ∧ f x < g x) → (l.map f).sum < (l.map g).sum
  | [], _, ⟨x, hx, _⟩ => by cases hx
  | a :: l, h, ⟨x, hx, hlt⟩ => by
    have h1 := h a List.mem_cons_self
    have h2 := sum_le (l := l) fun x hx => h x (List.mem_cons_of_mem _ hx)
    rw [List.map_cons, List.map_cons, List.sum_cons, List.sum_cons]
    rcases List.mem_cons.mp hx with e | e
    · subst e; omega
    · have := sum_lt (l := l) (fun x hx => h x (List.mem_cons_of_mem _ hx)) ⟨x, e, hlt⟩
      omega
/-- the bounds of one round -/
def bnds (r1 r2 : List Str → Nat) (nm A : List Str) (wt φ : Str → Int) : List (Str × Int) := (trd r1 nm A).map (fun q => (q.2, φ q.1)) ++ (trd r2 nm A).map fun q => (q.1, φ q.2 + wt q.1 - wt q.2)
end Bm
namespace Bw
open PySem PySem.Spec PyProof.Rows L2 Bt Bs Bm
section
variable {P : Program} {w : World} {K : PySem.W.Frag} {mg : Str → Option Value} {base : Heap}
def spSplitFault (K : PySem.W.Frag) : Sp := fun vs H Q _ => ∃ (R : Reg) (p1 p2 d l f g : Addr) (nm A : List Str) (r1 r2 : List Str → Nat) (wt wf wg : Str → Int), vs = [.ref p1, .ref p2, .ref d, .ref l, .ref f, .ref g] ∧ WInv R H ∧ FamS K R H p1 nm r1 ∧ FamS K R H p2 nm r2 ∧ H d = some (.dK (wtD nm wt)) ∧
  H l = some (.lst (A.map V.str)) ∧ H f = some (.dK (wtD nm wf)) ∧ H g = some (.dK (wtD nm wg)) ∧ (∀ x, wf x + wg x = wt x) ∧ A.Nodup ∧ (∀ x, x ∈ A → x ∈ nm) ∧ Bf.Ind r1 A ∧ Bf.Ind r2 A ∧
  ∀ H' v, Kp R H H' → (v = .non ↔ NoTrade r1 nm A wf ∧ NoTrade r2 nm A wg) → Q v H'
abbrev N_split_fault : List Str := ["one", "other", "weights", "lot", "first", "second", "word", "family", "thing", "part", "pair"]
theorem sc_split_fault : FnScope N_split_fault ["one", "other", "weights", "lot", "first", "second"] (defScope s_split_fault) := ⟨rfl, rfl, rfl, by decide +kernel, rfl, by decide +kernel, by decide +kernel⟩
theorem c_split_fault (T : Txt K mg) : Call P w K mg base 9 "split_fault" ["one", "other", "weights", "lot", "first", "second"] (spSplitFault K) := by
  refine mkCall T.d_split_fault sc_split_fault (fun _ _ _ _ _ _ us hl => match us, hl with | [_, _, _, _, _, _], _ => rfl) (fun vs H Q E h => ?_) (fun cdv A outer s H vs Q E hr h => ?_)
  · obtain ⟨R, p1, p2, d, l, f, g, nm, A, r1, r2, wt, wf, wg, rfl, _⟩ := h; rfl
  · obtain ⟨R, p1, p2, d, l, f, g, nm, As, r1, r2, wt, wf, wg, rfl, wi, hF, hG, hd, hl, hf, hg, hs, nd, sub, i1, i2, q⟩ := h
    have l8 := hF.l8
    have lA := Bf.nodup_le nd sub
    obtain ⟨dx, n1, o1, d1, g1, hn1⟩ := hF.nmA
    refine ⟨_, (pss_cons (ps_expr (pe_f (c_need_both T) hr (pa_cons (pv 0) (pa_cons (pv 1) (pa_cons (pv 2) pa_nil)))))
      (pss_cons (ps_if (pt_not (pt_val (pe_f (c_is_lot T) hr (pa_cons (pe_fld (pv 0) rfl) (pa_cons (pv 3) pa_nil))))) (pss_one (ps_ret (pe_tup (pa_cons pe_str pa_nil)))) pss_nil)
      (pss_cons (ps_for PassesOwn.never rfl (pi_tup (pe_tup (pa_cons (pe_tup (pa_cons pe_str (pa_cons (pv 0) pa_nil))) (pa_cons (pe_tup (pa_cons pe_str (pa_cons (pv 1) pa_nil))) pa_nil)))) (pg_tup (by rfl) (pgs_cons (pg_name (i := 6) sc_split_fault.nd rfl (by first | exact Or.inl rfl | exact Or.inr rfl)) (pgs_cons (pg_name (i := 7) sc_split_fault.nd rfl (by first | exact Or.inl rfl | exact Or.inr rfl)) pgs_nil))) (pss_one (ps_if (pt_not (pt_val (pe_f (c_is_free_in T) hr (pa_cons (pv 7) (pa_cons (pv 3) pa_nil))))) (pss_one (ps_ret (pe_tup (pa_cons pe_str (pa_cons (pv 6) pa_nil))))) pss_nil)))
      (pss_cons (ps_set (i := 8) sc_split_fault.nd rfl (Or.inl rfl) (pe_f (c_parts_fault T) hr (pa_cons (pe_fld (pv 0) rfl) (pa_cons (pv 2) (pa_cons (pv 4) (pa_cons (pv 5) pa_nil))))))
      (pss_cons (ps_if (pt_cmpR op_notN (pv 8) pe_non (nomark _)) (pss_one (ps_ret (pe_tup (pa_cons pe_str (pa_cons (pv 8) pa_nil))))) pss_nil)
      (pss_cons (ps_for PassesOwn.never rfl (pi_tup (pe_tup (pa_cons (pe_tup (pa_cons pe_str (pa_cons (pv 0) (pa_cons (pv 4) pa_nil)))) (pa_cons (pe_tup (pa_cons pe_str (pa_cons (pv 1) (pa_cons (pv 5) pa_nil)))) pa_nil)))) (pg_tup (by rfl) (pgs_cons (pg_name (i := 6) sc_split_fault.nd rfl (by first | exact Or.inl rfl | exact Or.inr rfl)) (pgs_cons (pg_name (i := 7) sc_split_fault.nd rfl (by first | exact Or.inl rfl | exact Or.inr rfl)) (pgs_cons (pg_name (i := 9) sc_split_fault.nd rfl (by first | exact Or.inl rfl | exact Or.inr rfl)) pgs_nil)))) (pss_cons (ps_set (i := 10) sc_split_fault.nd rfl (Or.inl rfl) (pe_f (c_trade_fault T) hr (pa_cons (pv 7) (pa_cons (pv 3) (pa_cons (pv 9) pa_nil)))))
      (pss_one (ps_if (pt_cmpR op_notN (pv 10) pe_non (nomark _)) (pss_one (ps_ret (pe_tup (pa_cons (pv 6) (StX.pa_star (pv 10) pa_nil))))) pss_nil))))
      (pss_one (ps_ret pe_non)))))))), ?_⟩
    refine ⟨_, rfl, _, rfl, _, rfl, R, p1, p2, d, nm, r1, r2, wt, rfl, wi, hF, hG, hd, fun H1 k1 => ?_⟩
    refine ⟨_, rfl, p1, _, dx, _, _, rfl, k1.at g1, T.c_Family, T.n_Family_names, rfl, _, rfl, R, l, n1, nm, As, rfl, k1.w, k1.at hl, k1.at hn1, nd, sub, by omega, fun H2 k2 => ⟨_, rfl, iteF ?_⟩⟩
    have k12 := k1.trans k2
    -- free in both
    refine ⟨_, rfl, by show 2 ≤ sizeLine; decide, fun a na => ?_⟩
    have ka := k12.new na (o := .tup [V.str "one", V.ref p1])
    refine ⟨_, rfl, by show 2 ≤ sizeLine; decide, fun b nb => ?_⟩
    have kb := ka.new nb (o := .tup [V.str "other", V.ref p2])
    have kab := Kp.upd ka.w nb (o := .tup [V.str "other", V.ref p2])
    refine ⟨by show 2 ≤ sizeLine; decide, fun c nc => ?_⟩
    have kc := kb.new nc (o := .tup [V.ref a, V.ref b])
    have kbc := Kp.upd kb.w nc (o := .tup [V.ref a, V.ref b])
    refine ⟨c, rfl, ⟨_, SqT.of upd_same⟩, ?_⟩
    refine forG (G := fun H4 => H4 c = some (.tup [V.ref a, V.ref b])) (src_tupG (c := fun x : Addr × Str × Addr => V.ref x.1) (its := ([(a, "one", p1), (b, "other", p2)] : List (Addr × Str × Addr))) fun _ g => g)
      (fun i σ H4 => ∃ v6 v7, σ = [some (.ref p1), some (.ref p2), some (.ref d), some (.ref l), some (.ref f), some (.ref g), v6, v7, none, none, none] ∧ Kp R H H4 ∧ H4 c = some (.tup [V.ref a, V.ref b]) ∧ H4 a = some (.tup [V.str "one", V.ref p1]) ∧ H4 b = some (.tup [V.str "other", V.ref p2]))
      (fun i σ H4 ⟨_, _, _, _, g, _⟩ => g) ⟨none, none, rfl, kc, upd_same, kbc.at (kab.at upd_same), kbc.at upd_same⟩ ?_ ?_
    · rintro i ⟨x, wd, p⟩ σ H4 hx ⟨v6, v7, rfl, k, hc, ha, hb⟩
      obtain ⟨r, hx1, hFp, ip⟩ : ∃ r, H4 x = some (.tup [V.str wd, V.ref p]) ∧ FamS K R H p nm r ∧ Bf.Ind r As := by
        rcases List.mem_cons.mp (List.mem_of_getElem? hx) with z | z
        · cases z; exact ⟨r1, ha, hF, i1⟩
        · cases List.mem_singleton.mp z; exact ⟨r2, hb, hG, i2⟩
      refine ⟨x, _, rfl, SqT.of hx1, rfl, _, _, rfl, _, _, rfl, rfl, ?_⟩
      refine ⟨_, rfl, _, rfl, R, p, l, nm, As, r, rfl, k.w, hFp.mono k, k.at hl, nd, sub, ip, fun H5 k5 => ⟨true, rfl, iteF ?_⟩⟩
      exact ⟨_, _, rfl, k.trans k5, k5.at hc, k5.at ha, k5.at hb⟩
    · rintro σ H4 ⟨v6, v7, rfl, k4, _⟩
      refine ⟨_, rfl, p1, _, dx, _, _, rfl, k4.at g1, T.c_Family, T.n_Family_names, rfl, _, rfl, _, rfl, _, rfl, R, n1, d, f, g, nm, wt, wf, wg, rfl, k4.w, k4.at hn1, k4.at hd, k4.at hf, k4.at hg, hs, hF.ss.nodup, l8, fun H5 k5 => ?_⟩
      have k45 := k4.trans k5
      refine ⟨_, rfl, rfl, _, rfl, iteF ?_⟩
      -- trades
      refine ⟨_, rfl, _, rfl, by show 3 ≤ sizeLine; decide, fun a na => ?_⟩
      have ka := k45.new na (o := .tup [V.str "one", V.ref p1, V.ref f])
      refine ⟨_, rfl, _, rfl, by show 3 ≤ sizeLine; decide, fun b nb => ?_⟩
      have kb := ka.new nb (o := .tup [V.str "other", V.ref p2, V.ref g])
      have kab := Kp.upd ka.w nb (o := .tup [V.str "other", V.ref p2, V.ref g])
      refine ⟨by show 2 ≤ sizeLine; decide, fun c nc => ?_⟩
      have kc := kb.new nc (o := .tup [V.ref a, V.ref b])
      have kbc := Kp.upd kb.w nc (o := .tup [V.ref a, V.ref b])
      refine ⟨c, rfl, ⟨_, SqT.of upd_same⟩, ?_⟩
      refine forG (G := fun H4 => H4 c = some (.tup [V.ref a, V.ref b])) (src_tupG (c := fun x : Addr × Str × Addr × Addr × (List Str → Nat) × (Str → Int) => V.ref x.1) (its := ([(a, "one", p1, f, r1, wf), (b, "other", p2, g, r2, wg)] : List (Addr × Str × Addr × Addr × (List Str → Nat) × (Str → Int)))) fun _ g => g)
        (fun i σ H4 => ∃ v6 v7 v9 v10, σ = [some (.ref p1), some (.ref p2), some (.ref d), some (.ref l), some (.ref f), some (.ref g), v6, v7, some .non, v9, v10] ∧ Kp R H H4 ∧ H4 c = some (.tup [V.ref a, V.ref b]) ∧ H4 a = some (.tup [V.str "one", V.ref p1, V.ref f]) ∧ H4 b = some (.tup [V.str "other", V.ref p2, V.ref g]) ∧
          ∀ x, x ∈ ([(a, "one", p1, f, r1, wf), (b, "other", p2, g, r2, wg)] : List (Addr × Str × Addr × Addr × (List Str → Nat) × (Str → Int))).take i → NoTrade x.2.2.2.2.1 nm As x.2.2.2.2.2)
        (fun i σ H4 ⟨_, _, _, _, _, _, g, _⟩ => g) ⟨v6, v7, none, none, rfl, kc, upd_same, kbc.at (kab.at upd_same), kbc.at upd_same, fun x hx => by cases hx⟩ ?_ ?_
      · rintro i ⟨x, wd, p, fp, r, wp⟩ σ H6 hx ⟨v6, v7, v9, v10, rfl, k, hc, ha, hb, hno⟩
        have hxm := List.mem_of_getElem? hx
        obtain ⟨hx1, hFp, hfp⟩ : H6 x = some (.tup [V.str wd, V.ref p, V.ref fp]) ∧ FamS K R H p nm r ∧ H fp = some (.dK (wtD nm wp)) := by
          rcases List.mem_cons.mp hxm with z | z
          · cases z; exact ⟨ha, hF, hf⟩
          · cases List.mem_singleton.mp z; exact ⟨hb, hG, hg⟩
        refine ⟨x, _, rfl, SqT.of hx1, rfl, _, _, rfl, _, _, rfl, _, _, rfl, rfl, ?_⟩
        refine ⟨_, rfl, _, rfl, _, rfl, R, p, l, fp, nm, As, r, wp, rfl, k.w, hFp.mono k, k.at hl, k.at hfp, nd, sub, fun H7 v k7 hv => ?_⟩
        have kk := k.trans k7
        refine ⟨_, rfl, rfl, _, rfl, ?_⟩
        rcases hv with ⟨rfl, hn⟩ | ⟨t, y1, y2, rfl, ht, hn⟩
        · refine iteF ⟨_, _, _, _, rfl, kk, k7.at hc, k7.at ha, k7.at hb, fun z hz => ?_⟩
          rw [take_succ_at hx] at hz
          rcases List.mem_append.mp hz with q | q
          · exact hno z q
          · rw [List.mem_singleton.mp q]; exact hn
        · refine iteT ⟨_, rfl, _, rfl, t, _, rfl, .inl (SqT.of ht), by show 3 ≤ sizeLine; decide, fun z nz => ?_⟩
          refine q _ _ (kk.new nz) ⟨fun e => (by cases e), fun hb => absurd ?_ hn⟩
          rcases List.mem_cons.mp hxm with z | z
          · cases z; exact hb.1
          · cases List.mem_singleton.mp z; exact hb.2
      · rintro σ H6 ⟨v6, v7, v9, v10, rfl, k, hc, ha, hb, hno⟩
        refine q H6 _ k ⟨fun _ => ⟨?_, ?_⟩, fun _ => rfl⟩
        · exact hno (a, "one", p1, f, r1, wf) (by simp)
        · exact hno (b, "other", p2, g, r2, wg) (by simp)
/-! ### split -/
def NoTr (r : List Str → Nat) (nm A : List Str) (wf : Str → Int) : Prop := ∀ y x, (y, x) ∈ trd r nm A → wf x ≤ wf y
def SplitV (r1 r2 : List Str → Nat) (nm : List Str) (wt : Str → Int) (k : Nat) (H : Hp) (v : V) : Prop := (v = .non ∧ mx r1 r2 nm < k) ∨ ∃ t f g A wf wg, v = .ref t ∧ H t = some (.tup [.ref f, .ref g]) ∧ H f = some (.dK (wtD nm wf)) ∧ H g = some (.dK (wtD nm wg)) ∧ (∀ x, wf x + wg x = wt x) ∧
  HvL r1 r2 nm wt A ∧ A.length = k ∧ NoTr r1 nm A wf ∧ NoTr r2 nm A wg
def spSplit (K : PySem.W.Frag) : Sp := fun vs H Q _ => ∃ (R : Reg) (p1 p2 d : Addr) (nm : List Str) (r1 r2 : List Str → Nat) (wt : Str → Int) (k : Nat), vs = [.ref p1, .ref p2, .ref d, .int k] ∧ WInv R H ∧ FamS K R H p1 nm r1 ∧ FamS K R H p2 nm r2 ∧ H d = some (.dK (wtD nm wt)) ∧
  ∀ H' v, Kp R H H' → SplitV r1 r2 nm wt k H' v → Q v H'
/-- a name with a bound as a value -/
def bndV (H : Hp) (v : V) (q : Str × Int) : Prop := ∃ t, v = .ref t ∧ H t = some (.tup [.str q.1, .int q.2])
theorem bndV.mono {R : Reg} {H H' : Hp} (k : Kp R H H') {v : V} {x : Str × Int} (h : bndV H v x) : bndV H' v x := by
  obtain ⟨t, e, h1⟩ := h
  exact ⟨t, e, k.at h1⟩
theorem bndV.updl {H : Hp} {l : Addr} {xs ys : List V} (hl : H l = some (.lst xs)) {v : V} {q : Str × Int} (h : bndV H v q) : bndV (upd H l (.lst ys)) v q := by
  obtain ⟨t, e, h1⟩ := h
  exact ⟨t, e, by rw [upd_ne fun z => by rw [z, hl] at h1; cases h1]; exact h1⟩
theorem wt_getF {H : Hp} {d : Addr} {o : Obj} {nm : List Str} {wt : Str → Int} {x : Str} (h : H d = some (.frz o (.dK (wtD nm wt)))) (hx : x ∈ nm) : DGet H d (.str x) (some (.int (wt x))) := by
  have e : valV (wtD nm wt) (Sum.inr x) = some (.int (wt x)) := dfn_get hx
  exact .inl ⟨wtD nm wt, Sum.inr x, .inr ⟨o, h⟩, rfl, e.symm⟩
abbrev N_split : List Str := ["one", "other", "weights", "k", "lot", "thing", "first", "ones", "others", "changed", "bounds", "bound", "gone"]
theorem sc_split : FnScope N_split ["one", "other", "weights", "k"] (defScope s_split) := ⟨rfl, rfl, rfl, by decide +kernel, rfl, by decide +kernel, by decide +kernel⟩
theorem c_split (T : Txt K mg) : Call P w K mg base 12 "split" ["one", "other", "weights", "k"] (spSplit K) := by
  refine mkCall T.d_split sc_split (fun _ _ _ _ _ _ us hl => match us, hl with | [_, _, _, _], _ => rfl) (fun vs H Q E h => ?_) (fun cdv A outer s H vs Q E hr h => ?_)
  · obtain ⟨R, p1, p2, d, nm, r1, r2, wt, k, rfl, _⟩ := h; rfl
  · obtain ⟨R, p1, p2, d, nm, r1, r2, wt, k, rfl, wi, hF, hG, hd, q⟩ := h
    have hu := hu_of hr
    have l8 := hF.l8
    obtain ⟨dx, n1, o1, d1, g1, hn1⟩ := hF.nmA
    refine ⟨_, (pss_cons (ps_expr (pe_f (c_need_both T) hr (pa_cons (pv 0) (pa_cons (pv 1) (pa_cons (pv 2) pa_nil)))))
      (pss_cons (ps_expr (pe_f (c_need_number T) hr (pa_cons (pv 3) pa_nil)))
      (pss_cons (ps_set (i := 4) sc_split.nd rfl (Or.inl rfl) (pe_f (c_lot_of T) hr (pa_cons (pv 0) (pa_cons (pv 1) (pa_cons (pv 2) (pa_cons (pv 3) pa_nil))))))
      (pss_cons (ps_if (pt_cmpR op_isN (pv 4) pe_non (nomark _)) (pss_one (ps_ret pe_non)) pss_nil)
      (pss_cons (ps_set (i := 6) sc_split.nd rfl (Or.inr rfl) (pe_dc (own := [("thing", 5)]) (by rfl) sc_split.nd (pi_tup (show PE _ _ (tFld K _ "names") from pe_fld (pv 0) rfl)) (blkOk_by (own := [("thing", 5)]) (N := N_split) (sc := defScope s_split) (by decide +kernel)) (fun _ _ _ _ _ => (pg_name (i := 5) sc_split.nd rfl (by first | exact Or.inl rfl | exact Or.inr rfl))) (fun _ _ _ _ _ => pts_nil) (fun _ _ _ _ _ => (pv 5)) (fun _ _ _ _ _ => pe_int)))
      (pss_cons (ps_par (by rfl) sc_split.nd (i := 7) (j := 8) rfl rfl (by decide) rfl rfl (pa_cons (pe_f (c_trades T) hr (pa_cons (pv 0) (pa_cons (pv 4) pa_nil))) (pa_cons (pe_f (c_trades T) hr (pa_cons (pv 1) (pa_cons (pv 4) pa_nil))) pa_nil)) (by rfl))
      (pss_cons (ps_set (i := 9) sc_split.nd rfl (Or.inl rfl) pe_bl)
      (pss_cons (ps_while PassesOwn.never (pt_val (pv 9)) (pss_cons (ps_set (i := 9) sc_split.nd rfl (Or.inl rfl) pe_bl)
      (pss_cons (ps_setLc (i := 10) (own := [("gone", 12), ("thing", 5)]) (by rfl) sc_split.nd rfl rfl (sw_true rfl rfl rfl (by decide +kernel)) (pi_list (pv 7)) (blkOk_by (own := [("gone", 12), ("thing", 5)]) (N := N_split) (sc := defScope s_split) (by decide +kernel)) (fun _ _ _ _ _ => (show PG _ _ (gTup K 2 _) from pg_tup (by rfl) (pgs_cons (pg_name (i := 12) sc_split.nd rfl (by first | exact Or.inl rfl | exact Or.inr rfl)) (pgs_cons (pg_name (i := 5) sc_split.nd rfl (by first | exact Or.inl rfl | exact Or.inr rfl)) pgs_nil)))) (fun _ _ _ _ _ => pts_nil) (fun _ _ _ _ _ => (pe_tup (pa_cons (pv 5) (pa_cons (pe_dget hu (pv 6) (pv 12) (fun _ _ => rfl)) pa_nil)))))
      (pss_cons (ps_expr (pe_bm PySem.F.plainAttrs_list PySem.F.slot_list_extend PySem.F.type_list_extend mt_extend (pv 10) (pa_cons (pe_lc (own := [("gone", 12), ("thing", 5)]) (by rfl) sc_split.nd (pi_list (pv 8)) (blkOk_by (own := [("gone", 12), ("thing", 5)]) (N := N_split) (sc := defScope s_split) (by decide +kernel)) (fun _ _ _ _ _ => (show PG _ _ (gTup K 2 _) from pg_tup (by rfl) (pgs_cons (pg_name (i := 12) sc_split.nd rfl (by first | exact Or.inl rfl | exact Or.inr rfl)) (pgs_cons (pg_name (i := 5) sc_split.nd rfl (by first | exact Or.inl rfl | exact Or.inr rfl)) pgs_nil)))) (fun _ _ _ _ _ => pts_nil) (fun _ _ _ _ _ => (pe_tup (pa_cons (pv 12) (pa_cons (pe_op op_sub (pe_op op_add (pe_dget hu (pv 6) (pv 5) (fun _ _ => rfl)) (pe_dget hu (pv 2) (pv 12) (fun _ _ => rfl))) (pe_dget hu (pv 2) (pv 5) (fun _ _ => rfl))) pa_nil))))) pa_nil)))
      (pss_one (ps_for PassesOwn.never rfl (pi_list (pv 10)) (pg_tup (by rfl) (pgs_cons (pg_name (i := 5) sc_split.nd rfl (by first | exact Or.inl rfl | exact Or.inr rfl)) (pgs_cons (pg_name (i := 11) sc_split.nd rfl (by first | exact Or.inl rfl | exact Or.inr rfl)) pgs_nil))) (pss_one (ps_if (pt_cmpR op_lt (pv 11) (pe_dget hu (pv 6) (pv 5) (fun _ _ => rfl)) (nomark _)) (pss_cons (ps_dput hu (pv 6) (pv 5) (pv 11) rfl)
      (pss_one (ps_set (i := 9) sc_split.nd rfl (Or.inl rfl) pe_bl))) pss_nil))))))))
      (pss_one (ps_ret (pe_tup (pa_cons (pv 6) (pa_cons (pe_lock (pe_dc (own := [("thing", 5)]) (by rfl) sc_split.nd (pi_keys (pv 6)) (blkOk_by (own := [("thing", 5)]) (N := N_split) (sc := defScope s_split) (by decide +kernel)) (fun _ _ _ _ _ => (pg_name (i := 5) sc_split.nd rfl (by first | exact Or.inl rfl | exact Or.inr rfl))) (fun _ _ _ _ _ => pts_nil) (fun _ _ _ _ _ => (pv 5)) (fun _ _ _ _ _ => (pe_op op_sub (pe_dget hu (pv 2) (pv 5) (fun _ _ => rfl)) (pe_dget hu (pv 6) (pv 5) (fun _ _ => rfl)))))) pa_nil))))))))))))), ?_⟩
    refine ⟨_, rfl, _, rfl, _, rfl, R, p1, p2, d, nm, r1, r2, wt, rfl, wi, hF, hG, hd, fun H1 k1 => ?_⟩
    refine ⟨_, rfl, (k : Int), rfl, by omega, ?_⟩
    refine ⟨_, rfl, _, rfl, _, rfl, _, rfl, R, p1, p2, d, nm, r1, r2, wt, k, rfl, k1.w, hF.mono k1, hG.mono k1, k1.at hd, fun H2 v k2 hv => ?_⟩
    have k12 := k1.trans k2
    refine ⟨_, rfl, rfl, _, rfl, ?_⟩
    rcases hv with ⟨rfl, hm⟩ | ⟨t, A, rfl, ht, hA, lA⟩
    · exact iteT (q H2 _ k12 (.inl ⟨rfl, hm⟩))
    refine iteF ?_
    have la := lot_le hF.ss hA.lot
    have ndA := (hA.lot.ss hF.ss).nodup
    -- first
    refine ⟨_, rfl, p1, _, dx, _, _, rfl, k12.at g1, T.c_Family, T.n_Family_names, rfl, n1, rfl, ⟨_, SqT.of (k12.at hn1)⟩, fun fa hfa => ?_⟩
    refine dcG hfa (src_tup (c := V.str) (its := nm) (k12.at hn1)) k2.w (by omega) (fun p v _ => v = .int 0) Sum.inr (fun _ _ _ _ _ h => h) (fun _ _ _ _ _ _ h => h) (nodup_inr hF.ss.nodup) (fun _ => rfl) (fun _ _ _ _ q => q)
      (fun x hx H1 Q' q' => ⟨_, rfl, q'⟩) (fun x hx H1 k Q' q' => q' _ H1 (Kp.refl k.w) rfl) fun H3 kv3 k3 e3 pr => ?_
    have ekv : kv3 = wtD nm fun _ => 0 := by
      have aux : ∀ {a : List Str} {b : List (Key × V)}, Paired (fun (i : Str) (kv : Key × V) => kv.1 = Sum.inr i ∧ kv.2 = .int 0) a b → b = wtD a fun _ => 0 := by
        intro a b pp
        induction pp with
        | nil => rfl
        | cons r t ih => rw [ih, show _ = ((Sum.inr _, V.int 0) : Key × V) from Prod.ext r.1 r.2]; rfl
      exact aux pr
    subst ekv
    have k13 := k12.trans k3
    have nfa : H fa = none := k12.fr hfa
    -- ones, others
    refine ⟨_, rfl, _, rfl, R, p1, t, nm, A, r1, rfl, k3.w, hF.mono k13, k3.at ht, hA.lot, fun H4 oa ps1 k4 noa hon pr1 => ?_⟩
    have k14 := k13.trans k4
    refine ⟨_, rfl, _, rfl, R, p2, t, nm, A, r2, rfl, k4.w, hG.mono k14, (k3.trans k4).at ht, hA.lot, fun H5 ob ps2 k5 nob hot pr2 => ?_⟩
    have k15 := k14.trans k5
    have hfa5 := (k4.trans k5).at e3
    have hon5 := k5.at hon
    obtain ⟨its1, rfl, ei1, hi1⟩ := paired_zip pr1
    obtain ⟨its2, rfl, ei2, hi2⟩ := paired_zip pr2
    have hi1' : ∀ p, p ∈ its1 → pairV H5 p.1 p.2 := fun p hp => (hi1 p hp).mono k5
    have t1 := trd_len (r := r1) (nm := nm) (A := A) (Nat.le_trans la l8) l8
    have t2 := trd_len (r := r2) (nm := nm) (A := A) (Nat.le_trans la l8) l8
    rw [ei1, List.length_map] at t1
    rw [ei2, List.length_map] at t2
    refine ⟨_, _, rfl, ?_⟩
    -- the weights' own parts bound all
    obtain ⟨w1, w2, hw, loc1, loc2⟩ := hA.ext
    obtain ⟨M, hM0, hM⟩ := Bf.absb w1 nm
    let lo : Str → Int := fun x => w1 x - M
    let S : (Str → Int) → Nat := fun φ => (nm.map fun x => (φ x - lo x).toNat).sum
    let KF : Hp → Prop := fun H6 => ∀ b o, H5 b = some o → b ≠ fa → isT o = false → H6 b = some o
    refine ⟨fun m σ H6 => ∃ (φ : Str → Int) (c : Bool) (v5 v10 v11 : Option V), m = 2 * S φ + (if c = true then 1 else 0) ∧ σ = [some (.ref p1), some (.ref p2), some (.ref d), some (.int k), some (.ref t), v5, some (.ref fa), some (.ref oa), some (.ref ob), some (.bl c), v10, v11, none] ∧ Kp R H H6 ∧ KF H6 ∧ H6 fa = some (.dK (wtD nm φ)) ∧ (∀ x, x ∈ nm → lo x ≤ φ x) ∧
      (c = false → NoTr r1 nm A φ ∧ NoTr r2 nm A fun x => wt x - φ x), ⟨_, fun _ => 0, true, none, none, none, rfl, rfl, k15, fun b o h _ _ => h, hfa5, fun x hx => ?_, fun z => by cases z⟩, ?_⟩
    · have := hM x hx
      show w1 x - M ≤ 0
      omega
    rintro m σ H6 ⟨φ, c, v5, v10, v11, rfl, rfl, k6, kf6, hfa6, hlo, hend⟩
    refine ⟨_, rfl, c, rfl, ?_⟩
    have ndf : d ≠ fa := ne_of_none hd nfa
    cases c with
    | false =>
      obtain ⟨c1, c2⟩ := hend rfl
      refine iteF ⟨_, rfl, fa, _, hfa6, trivial, fun od => ?_⟩
      refine ⟨_, rfl, fa, od, rfl, .inl ⟨_, upd_same, fun D hD => ?_⟩⟩
      have hd6 : (upd H6 fa (.frz od (.dK (wtD nm φ)))) d = some (.dK (wtD nm wt)) := by rw [upd_ne ndf]; exact k6.at hd
      refine dcG hD (src_keys (R := R) upd_same) (Kp.lock k6.w hfa6) (by rw [dfn_len]; omega) (fun kv v _ => ∃ x, kv.1 = Sum.inr x ∧ v = .int (wt x - φ x)) (fun kv => kv.1) (fun _ _ _ _ _ h => h) (fun _ _ _ _ _ _ h => h) (by
          have e : (wtD nm φ).map (fun kv => kv.1) = nm.map Sum.inr := dfn_keys _ _
          rw [e]; exact nodup_inr hF.ss.nodup) (fun _ => rfl) (fun _ _ _ _ q => q)
        (fun kv hkv Ha Q' q' => ⟨_, rfl, q'⟩) (fun kv hkv Ha ka Q' q' => ?_) fun H7 kv7 k7 e7 pr7 => ?_
      · obtain ⟨x, hx, rfl⟩ := List.mem_map.mp hkv
        exact ⟨_, rfl, _, rfl, d, _, rfl, wt_get (ka.at hd6) hx, _, rfl, _, rfl, fa, _, rfl, wt_getF (ka.at upd_same) hx, _, _, rfl, rfl, q' _ Ha (Kp.refl ka.w) ⟨x, rfl, rfl⟩⟩
      · have ekv7 : kv7 = wtD nm fun x => wt x - φ x := by
          have aux : ∀ (ks : List Str) {b : List (Key × V)}, Paired (fun (i kv : Key × V) => kv.1 = i.1 ∧ ∃ x, i.1 = Sum.inr x ∧ kv.2 = .int (wt x - φ x)) (wtD ks φ) b → b = wtD ks fun x => wt x - φ x := by
            intro ks
            induction ks with
            | nil => intro b pp; cases pp; rfl
            | cons k ks ih =>
              intro b pp
              cases pp with
              | cons r t =>
                obtain ⟨r1, x, r2, r3⟩ := r
                cases r2
                rw [ih t, show _ = ((Sum.inr k, V.int (wt k - φ k)) : Key × V) from Prod.ext r1 r3]; rfl
          exact aux _ pr7
        subst ekv7
        refine ⟨k7.at upd_same, ?_⟩
        have kU := Kp.unlock k6.w hfa6 k7
        have nDf : D ≠ fa := fun z => by rw [z, upd_same] at hD; cases hD
        refine ⟨by show 2 ≤ sizeLine; decide, fun z nz => ?_⟩
        have kz := Kp.upd kU.w nz (o := .tup [V.ref fa, V.ref D])
        refine q _ _ ((k6.trans kU).trans kz) (.inr ⟨z, fa, D, A, φ, fun x => wt x - φ x, rfl, upd_same, kz.at upd_same, kz.at (by rw [upd_ne nDf]; exact e7), fun x => by show φ x + (wt x - φ x) = wt x; omega, hA, lA, c1, c2⟩)
    | true =>
      refine iteT ⟨fun σ H6 => ∃ (φ' : Str → Int) (c : Bool) (v5 v10 v11 : Option V), 2 * S φ' + (if c = true then 1 else 0) < 2 * S φ + (if true = true then 1 else 0) ∧ σ = [some (.ref p1), some (.ref p2), some (.ref d), some (.int k), some (.ref t), v5, some (.ref fa), some (.ref oa), some (.ref ob), some (.bl c), v10, v11, none] ∧ Kp R H H6 ∧ KF H6 ∧ H6 fa = some (.dK (wtD nm φ')) ∧ (∀ x, x ∈ nm → lo x ≤ φ' x) ∧
        (c = false → NoTr r1 nm A φ' ∧ NoTr r2 nm A fun x => wt x - φ' x), ?_, ?_⟩
      · rintro σ' H7 ⟨φ', c, v5, v10, v11, hlt, rfl, h⟩
        exact ⟨_, hlt, φ', c, v5, v10, v11, rfl, rfl, h⟩
      have noaf : oa ≠ fa := fun z => by rw [z] at hon5; rw [hon5] at hfa5; cases hfa5
      have nobf : ob ≠ fa := fun z => by rw [z] at hot; rw [hot] at hfa5; cases hfa5
      have hon6 := kf6 _ _ hon5 noaf rfl
      have hot6 := kf6 _ _ hot nobf rfl
      have mem1 : ∀ x, x ∈ its1 → x.2.1 ∈ A ∧ x.2.2 ∈ nm := fun x hx => by
        have : x.2 ∈ trd r1 nm A := by rw [ei1]; exact List.mem_map.mpr ⟨x, hx, rfl⟩
        obtain ⟨m1, m2, _⟩ := mem_trd.mp this
        exact ⟨m1, m2⟩
      have mem2 : ∀ x, x ∈ its2 → x.2.1 ∈ A ∧ x.2.2 ∈ nm := fun x hx => by
        have : x.2 ∈ trd r2 nm A := by rw [ei2]; exact List.mem_map.mpr ⟨x, hx, rfl⟩
        obtain ⟨m1, m2, _⟩ := mem_trd.mp this
        exact ⟨m1, m2⟩
      -- bounds
      refine ⟨_, rfl, oa, rfl, ⟨_, SqL.of hon6⟩, fun D hD => ?_⟩
      refine lcG hD (src_lst (c := (·.1)) (its := its1) hon6) k6.w (by omega) (fun x v H => bndV H v (x.2.2, φ x.2.1)) (fun _ => true) (fun x => [some (.ref p1), some (.ref p2), some (.ref d), some (.int k), some (.ref t), some (.str x.2.2), some (.ref fa), some (.ref oa), some (.ref ob), some (.bl false), v10, v11, some (.str x.2.1)]) (fun x v Ha Hb kk h => h.mono kk) (fun x v Ha xs ys hx h => h.updl hx) (fun x => ?_) (fun x hx H8 k8 QG qg => ?_) (fun x hx H8 k8 QT qt => qt H8 (Kp.refl k8.w)) (fun x hx hT xs H8 k8 hDD Q' q' => ?_) fun H7 ys1 k7 e7 pr7 => ?_
      · rfl
      · obtain ⟨tt, et, htt⟩ := hi1' x hx
        rw [et]
        have htt6 := kf6 _ _ htt (fun z => by rw [z, hfa5] at htt; cases htt) rfl
        exact ⟨tt, _, rfl, SqT.of (k8.at htt6), rfl, _, _, rfl, _, _, rfl, rfl, qg⟩
      · refine ⟨_, rfl, _, rfl, _, rfl, fa, _, rfl, wt_get (k8.at hfa6) (hA.lot.sub (mem1 x hx).1), by show 2 ≤ sizeLine; decide, fun z nz => ?_⟩
        exact q' _ _ (Kp.upd k8.w nz) ⟨z, rfl, upd_same⟩
      rw [List.filter_eq_self.mpr (fun _ _ => rfl)] at pr7
      have l1 : ys1.length ≤ 64 := by rw [← pr7.length]; exact t1
      have nDH : H D = none := k6.fr hD
      have nDf : D ≠ fa := fun z => by rw [z, hfa6] at hD; cases hD
      refine ⟨_, rfl, .inl ⟨rfl, _, SqL.of e7⟩, ?_⟩
      refine ⟨_, rfl, ob, rfl, ⟨_, SqL.of (k7.at hot6)⟩, fun D2 hD2 => ?_⟩
      refine lcG hD2 (src_lst (c := (·.1)) (its := its2) (k7.at hot6)) k7.w (by omega) (fun x v H => bndV H v (x.2.1, φ x.2.2 + wt x.2.1 - wt x.2.2)) (fun _ => true) (fun x => [some (.ref p1), some (.ref p2), some (.ref d), some (.int k), some (.ref t), some (.str x.2.2), some (.ref fa), some (.ref oa), some (.ref ob), some (.bl false), some (.ref D), v11, some (.str x.2.1)]) (fun x v Ha Hb kk h => h.mono kk) (fun x v Ha xs ys hx h => h.updl hx) (fun x => ?_) (fun x hx H8 k8 QG qg => ?_) (fun x hx H8 k8 QT qt => qt H8 (Kp.refl k8.w)) (fun x hx hT xs H8 k8 hDD Q' q' => ?_) fun H8 ys2 k8 e8 pr8 => ?_
      · rfl
      · obtain ⟨tt, et, htt⟩ := hi2 x hx
        rw [et]
        have htt6 := kf6 _ _ htt (fun z => by rw [z, hfa5] at htt; cases htt) rfl
        exact ⟨tt, _, rfl, SqT.of ((k7.trans k8).at htt6), rfl, _, _, rfl, _, _, rfl, rfl, qg⟩
      · have k78 := k7.trans k8
        have hdx := (k6.trans k78).at hd
        refine ⟨_, rfl, _, rfl, _, rfl, fa, _, rfl, wt_get (k78.at hfa6) (mem2 x hx).2, _, rfl, _, rfl, d, _, rfl, wt_get hdx (hA.lot.sub (mem2 x hx).1), _, _, rfl, rfl, _, rfl, _, rfl, d, _, rfl, wt_get hdx (mem2 x hx).2, _, _, rfl, rfl, by show 2 ≤ sizeLine; decide, fun z nz => ?_⟩
        exact q' _ _ (Kp.upd k8.w nz) ⟨z, rfl, upd_same⟩
      rw [List.filter_eq_self.mpr (fun _ _ => rfl)] at pr8
      have l2 : ys2.length ≤ 64 := by rw [← pr8.length]; exact t2
      have k68 := k7.trans k8
      refine ⟨D, D2, ys1, ys2, rfl, rfl, k8.at e7, e8, Nat.le_trans (Nat.add_le_add l1 l2) (by decide), ?_⟩
      -- all bounds
      have prB : Paired (bndV (upd H8 D (.lst (ys1 ++ ys2)))) (ys1 ++ ys2) (bnds r1 r2 nm A wt φ) := by
        unfold bnds
        rw [ei1, ei2, List.map_map, List.map_map]
        have aux : ∀ {f : V × Str × Str → Str × Int} {H9 : Hp}, (∀ x v, bndV H9 v (f x) → bndV (upd H8 D (.lst (ys1 ++ ys2))) v (f x)) → ∀ {zs : List (V × Str × Str)} {vs : List V}, Paired (fun x v => bndV H9 v (f x)) zs vs → Paired (bndV (upd H8 D (.lst (ys1 ++ ys2)))) vs (zs.map f) := by
          intro f H9 hup zs vs pp
          induction pp with
          | nil => exact .nil
          | cons r t ih => exact .cons (hup _ _ r) ih
        exact paired_app (aux (fun x v h => (h.mono k8).updl (k8.at e7)) pr7) (aux (fun x v h => h.updl (k8.at e7)) pr8)
      have kD : Kp R H (upd H8 D (.lst (ys1 ++ ys2))) := (k6.trans k68).mut nDH
      have hfaD : (upd H8 D (.lst (ys1 ++ ys2))) fa = some (.dK (wtD nm φ)) := by rw [upd_ne nDf.symm]; exact k68.at hfa6
      have kfD : KF (upd H8 D (.lst (ys1 ++ ys2))) := fun b o h n hT => by
        have h6 := kf6 b o h n hT
        rw [upd_ne (ne_of_none h6 hD)]
        exact k68.at h6 hT
      have hDD : (upd H8 D (.lst (ys1 ++ ys2))) D = some (.lst (ys1 ++ ys2)) := upd_same
      generalize (upd H8 D (.lst (ys1 ++ ys2))) = H9 at prB kD hfaD kfD hDD
      obtain ⟨jts, ey, ej, hj⟩ := paired_zip prB
      rw [ey] at hDD
      have blo : ∀ q, q ∈ bnds r1 r2 nm A wt φ → q.1 ∈ nm ∧ lo q.1 ≤ q.2 := fun q hq => by
        rcases List.mem_append.mp hq with h | h
        · obtain ⟨⟨y, x⟩, hyx, rfl⟩ := List.mem_map.mp h
          obtain ⟨m1, m2, m3, m4⟩ := (trd_ex hF.rk ndA).mp hyx
          have := loc1 y m1 x m2 m3 m4
          have := hlo y (hA.lot.sub m1)
          refine ⟨m2, ?_⟩
          show w1 x - M ≤ φ y
          have : w1 y - M ≤ φ y := this
          omega
        · obtain ⟨⟨y, x⟩, hyx, rfl⟩ := List.mem_map.mp h
          obtain ⟨m1, m2, m3, m4⟩ := (trd_ex hG.rk ndA).mp hyx
          have h1 := loc2 y m1 x m2 m3 m4
          have h2 : w1 x - M ≤ φ x := hlo x m2
          have h3 := hw x
          have h4 := hw y
          refine ⟨hA.lot.sub m1, ?_⟩
          show w1 y - M ≤ φ x + wt y - wt x
          omega
      refine ⟨_, rfl, D, rfl, ⟨_, SqL.of hDD⟩, ?_⟩
      refine forG (G := fun H => H D = some (.lst (jts.map (·.1)))) (src_lstG (c := (·.1)) (its := jts) fun _ g => g)
        (fun i σ Hx => ∃ (ψ : Str → Int) (c' : Bool) (v5 v11 : Option V), σ = [some (.ref p1), some (.ref p2), some (.ref d), some (.int k), some (.ref t), v5, some (.ref fa), some (.ref oa), some (.ref ob), some (.bl c'), some (.ref D), v11, none] ∧ Kp R H Hx ∧ (∀ b o, H9 b = some o → b ≠ fa → isT o = false → Hx b = some o) ∧ Hx fa = some (.dK (wtD nm ψ)) ∧ (∀ x, x ∈ nm → lo x ≤ ψ x ∧ ψ x ≤ φ x) ∧
          (c' = false → (∀ x, x ∈ nm → ψ x = φ x) ∧ ∀ q, q ∈ (jts.take i).map (·.2) → φ q.1 ≤ q.2) ∧ (c' = true → S ψ < S φ))
        (fun i σ Hx ⟨_, _, _, _, _, _, g, _⟩ => g _ _ hDD nDf rfl) ⟨φ, false, v5, v11, rfl, kD, fun b o h _ _ => h, hfaD, fun x hx => ⟨hlo x hx, Int.le_refl _⟩, fun _ => ⟨fun _ _ => rfl, fun q hq => by cases hq⟩, fun z => by cases z⟩ ?_ ?_
      · rintro i j σ Hx hji ⟨ψ, c', v5, v11, rfl, kx, kfx, hfx, hb, hf0, hf1⟩
        have hjm := List.mem_of_getElem? hji
        obtain ⟨tt, et, htt⟩ := hj j hjm
        have ntf : tt ≠ fa := fun z => by rw [z, hfaD] at htt; cases htt
        have hjb : j.2 ∈ bnds r1 r2 nm A wt φ := by rw [ej]; exact List.mem_map.mpr ⟨j, hjm, rfl⟩
        obtain ⟨jn, jl⟩ := blo _ hjb
        rw [et]
        refine ⟨tt, _, rfl, SqT.of (kfx _ _ htt ntf rfl), rfl, _, _, rfl, _, _, rfl, rfl, ?_⟩
        refine ⟨_, rfl, _, rfl, _, rfl, fa, _, rfl, wt_get hfx jn, _, _, rfl, rfl, _, rfl, ?_⟩
        refine ite2 (fun hc => ?_) (fun hc => ?_)
        · have hlt : j.2.2 < ψ j.2.1 := of_decide_eq_true hc
          refine ⟨_, rfl, _, rfl, _, rfl, fa, _, rfl, DPut.k (k := Sum.inr j.2.1) hfx (by rw [dfn_len]; exact Nat.lt_of_le_of_lt l8 (by decide)), ?_⟩
          refine ⟨fun p => if p = j.2.1 then j.2.2 else ψ p, true, _, _, rfl, kx.mut nfa, fun b o h n hT => by rw [upd_ne n]; exact kfx b o h n hT, ?_, fun x hx => ?_, (fun z => by cases z), fun _ => ?_⟩
          · rw [upd_same, dfn_put jn]
            congr 2
            refine dfn_congr fun y hy => ?_
            show (if y = j.2.1 then V.int j.2.2 else V.int (ψ y)) = V.int (if y = j.2.1 then j.2.2 else ψ y)
            by_cases z : y = j.2.1
            · rw [if_pos z, if_pos z]
            · rw [if_neg z, if_neg z]
          · show lo x ≤ (if x = j.2.1 then j.2.2 else ψ x) ∧ (if x = j.2.1 then j.2.2 else ψ x) ≤ φ x
            by_cases z : x = j.2.1
            · rw [if_pos z]
              have := (hb x hx).2
              rw [z] at this ⊢
              exact ⟨jl, by omega⟩
            · rw [if_neg z]; exact hb x hx
          · refine Nat.lt_of_lt_of_le (sum_lt (g := fun x => (ψ x - lo x).toNat) (fun x hx => ?_) ⟨j.2.1, jn, ?_⟩) (sum_le fun x hx => ?_)
            · show ((if x = j.2.1 then j.2.2 else ψ x) - lo x).toNat ≤ (ψ x - lo x).toNat
              by_cases z : x = j.2.1
              · rw [if_pos z, z]; omega
              · rw [if_neg z]; exact Nat.le_refl _
            · show ((if j.2.1 = j.2.1 then j.2.2 else ψ j.2.1) - lo j.2.1).toNat < (ψ j.2.1 - lo j.2.1).toNat
              rw [if_pos rfl]
              omega
            · have := hb x hx
              omega
        · have hlt : ¬ j.2.2 < ψ j.2.1 := fun z => hc (decide_eq_true z)
          refine ⟨ψ, c', _, _, rfl, kx, kfx, hfx, hb, fun z => ⟨(hf0 z).1, fun q hq => ?_⟩, hf1⟩
          rw [take_succ_at hji, List.map_append] at hq
          rcases List.mem_append.mp hq with h | h
          · exact (hf0 z).2 q h
          · rw [List.mem_singleton.mp h]
            have := (hf0 z).1 j.2.1 jn
            show φ j.2.1 ≤ j.2.2
            omega
      · rintro σ Hx ⟨ψ, c', v5, v11, rfl, kx, kfx, hfx, hb, hf0, hf1⟩
        rw [List.take_length, ← ej] at hf0
        have hS : S ψ ≤ S φ := sum_le fun x hx => by have := hb x hx; omega
        refine ⟨ψ, c', v5, _, v11, ?_, rfl, kx, fun b o h n hT => kfx b o (kfD b o h n hT) n hT, hfx, fun x hx => (hb x hx).1, fun z => ?_⟩
        · cases c' with
          | false => simp only [Bool.false_eq_true, if_false, if_true]; omega
          | true => have := hf1 rfl; simp only [if_true]; omega
        · obtain ⟨eq, hbd⟩ := hf0 z
          refine ⟨fun y x hyx => ?_, fun y x hyx => ?_⟩
          · obtain ⟨m1, m2, _⟩ := mem_trd.mp hyx
            have h := hbd (x, φ y) (List.mem_append.mpr (.inl (List.mem_map.mpr ⟨(y, x), hyx, rfl⟩)))
            rw [eq x m2, eq y (hA.lot.sub m1)]
            exact h
          · obtain ⟨m1, m2, _⟩ := mem_trd.mp hyx
            have h : φ y ≤ φ x + wt y - wt x := hbd (y, φ x + wt y - wt x) (List.mem_append.mpr (.inr (List.mem_map.mpr ⟨(y, x), hyx, rfl⟩)))
            show wt x - ψ x ≤ wt y - ψ y
            rw [eq x m2, eq y (hA.lot.sub m1)]
            omega
end
end Bw
set_option Elab.async false
set_option linter.all false
set_option pp.maxSteps 300
set_option maxRecDepth 100000
set_option maxHeartbeats 4000000
/-! the law's own helpers: the state, draws -/
namespace Bw
open PySem PySem.Spec PyProof.Rows L2 Bt Bs Bm
section
variable {P : Program} {w : World} {K : PySem.W.Frag} {mg : Str → Option Value} {base : Heap}
/-- the state of the draws -/
def StS (H : Hp) (a sc : Addr) (ns : List Int) : Prop := ∃ (i1 : Nat) (i2 i3 i4 i5 : Int), H a = some (.lst [.ref sc, .int i1, .int i2, .int i3, .int i4, .int i5]) ∧ H sc = some (.lst (ns.map V.int))
/-- nothing but a has changed -/
def Dr (a : Addr) (H H' : Hp) : Prop := ∀ b, b ≠ a → H' b = H b
theorem Dr.refl (a : Addr) (H : Hp) : Dr a H H := fun _ _ => rfl
theorem Dr.upd {a : Addr} {H H' : Hp} {o : HO} (h : Dr a H H') : Dr a H (L2.upd H' a o) := fun b hb => by rw [upd_ne hb]; exact h b hb
theorem Dr.trans {a : Addr} {H H1 H2 : Hp} (h : Dr a H H1) (k : Dr a H1 H2) : Dr a H H2 := fun b hb => (k b hb).trans (h b hb)
theorem Dr.at {a b : Addr} {H H' : Hp} {o : HO} (h : Dr a H H') (e : H b = some o) (n : b ≠ a) : H' b = some o := (h b n).trans e
theorem Dr.fr {a b sc : Addr} {ns : List Int} {H H' : Hp} (h : Dr a H H') (e : H' b = none) (s' : StS H' a sc ns) : H b = none := by
  by_cases n : b = a
  · obtain ⟨_, _, _, _, _, e', _⟩ := s'
    rw [n, e'] at e; cases e
  · rw [← h b n]; exact e
theorem Kp.dr {R : Reg} {H0 H H' : Hp} {a sc : Addr} {ns : List Int} (k : Kp R H0 H) (h0 : H0 a = none) (h : Dr a H H') (s : StS H' a sc ns) : Kp R H0 H' := by
  obtain ⟨_, _, _, _, _, e', _⟩ := s
  refine ⟨k.w0, fun d nm r e => ?_, fun b v e n => ?_, fun b e => ?_⟩
  · obtain ⟨kvs, e1, m⟩ := k.w d nm r e
    exact ⟨kvs, h.at e1 (k.w0.ne e h0), m⟩
  · exact h.at (k.ex.old b v e n) (ne_of_none e h0)
  · by_cases hb : b = a
    · rw [hb]; exact h0
    · rw [h b hb] at e
      exact k.ex.dom b e
/-- all but a has stayed -/
def KA (a : Addr) (H H' : Hp) : Prop := ∀ b o, H b = some o → b ≠ a → isT o = false → H' b = some o
theorem KA.refl (a : Addr) (H : Hp) : KA a H H := fun _ _ h _ _ => h
theorem KA.trans {a : Addr} {H H1 H2 : Hp} (h : KA a H H1) (k : KA a H1 H2) : KA a H H2 := fun b o e n t => k b o (h b o e n t) n t
theorem KA.dr {a : Addr} {H H1 H2 : Hp} (h : KA a H H1) (k : Dr a H1 H2) : KA a H H2 := fun b o e n t => k.at (h b o e n t) n
theorem KA.kp {R : Reg} {a : Addr} {H H1 H2 : Hp} (h : KA a H H1) (k : Kp R H1 H2) : KA a H H2 := fun b o e n t => k.at (h b o e n t) t
theorem StS.kp {R : Reg} {a sc : Addr} {ns : List Int} {H H' : Hp} (h : StS H a sc ns) (k : Kp R H H') : StS H' a sc ns := by
  obtain ⟨i1, i2, i3, i4, i5, h1, h2⟩ := h
  exact ⟨i1, i2, i3, i4, i5, k.at h1, k.at h2⟩
def spState : Sp := fun vs H Q _ => ∃ (R : Reg) (s : Addr) (ns : List Int), vs = [.ref s] ∧ WInv R H ∧ SqL K H s (ns.map V.int) ∧ ∀ H' a sc, Kp R H H' → H a = none → H sc = none → StS H' a sc ns → Q (.ref a) H'
abbrev N_law_state : List Str := ["_law_script"]
theorem sc_law_state : FnScope N_law_state ["_law_script"] (defScope s_law_state) := ⟨rfl, rfl, rfl, by decide +kernel, rfl, by decide +kernel, by decide +kernel⟩
theorem c_law_state (T : Txt K mg) : Call P w K mg base 1 "_law_state" ["_law_script"] (spState (K := K)) := by
  refine mkCall T.d_law_state sc_law_state (fun _ _ _ _ _ _ us hl => match us, hl with | [_], _ => rfl) (fun vs H Q E h => ?_) (fun cdv A outer s H vs Q E hr h => ?_)
  · obtain ⟨R, s, ns, rfl, _⟩ := h; rfl
  · obtain ⟨R, s, ns, rfl, wi, hs, q⟩ := h
    refine ⟨_, (pss_one (ps_ret (pe_lst (pa_cons (pe_callTy call_list_of (by rfl) T.f_list bt_list (pa_cons (pv 0) pa_nil)) (pa_cons pe_int (pa_cons pe_int (pa_cons pe_int (pa_cons pe_int (pa_cons pe_int pa_nil))))))))), ?_⟩
    refine ⟨_, rfl, s, _, rfl, .inl hs, fun l nl => ?_⟩
    have k1 := Kp.upd wi nl (o := .lst (ns.map V.int))
    refine ⟨by show 6 ≤ sizeLine; decide, fun a na => ?_⟩
    have k2 := Kp.upd k1.w na (o := .lst [.ref l, .int 0, .int 0, .int 0, .int 0, .int 0])
    exact q _ a l (k1.trans k2) (k1.fr na) nl ⟨0, 0, 0, 0, 0, upd_same, k2.at upd_same⟩
def spDraw : Sp := fun vs H Q _ => ∃ (a sc : Addr) (ns : List Int) (m : Int), vs = [.ref a, .int m] ∧ 0 < m ∧ m < 2 ^ 100 ∧ StS H a sc ns ∧ ∀ H' d, Dr a H H' → StS H' a sc ns → 0 ≤ d → d < m → Q (.int d) H'
abbrev N_law_draw : List Str := ["_law_state_here", "_law_many", "_law_digit", "_law_cell", "_law_number"]
theorem sc_law_draw : FnScope N_law_draw ["_law_state_here", "_law_many"] (defScope s_law_draw) := ⟨rfl, rfl, rfl, by decide +kernel, rfl, by decide +kernel, by decide +kernel⟩
theorem c_law_draw (T : Txt K mg) : Call P w K mg base 1 "_law_draw" ["_law_state_here", "_law_many"] spDraw := by
  refine mkCall T.d_law_draw sc_law_draw (fun _ _ _ _ _ _ us hl => match us, hl with | [_, _], _ => rfl) (fun vs H Q E h => ?_) (fun cdv A outer s H vs Q E hr h => ?_)
  · obtain ⟨a, sc, ns, m, rfl, _⟩ := h; rfl
  · obtain ⟨a, sc, ns, m, rfl, m0, m1, ⟨i1, i2, i3, i4, i5, ha, hsc⟩, q⟩ := h
    have nsa : sc ≠ a := fun z => by
      rw [z, ha] at hsc
      have := HO.lst.inj (Option.some.inj hsc)
      cases ns with
      | nil => cases this
      | cons n ns => cases this
    have dv : ∀ i : Int, CDivW i m := fun i => wide_div (b := 100) m0 (by omega) (by decide) (by decide)
    have md : ∀ i : Int, 0 ≤ i % m ∧ i % m < m := fun i => ⟨Int.emod_nonneg _ (by omega), Int.emod_lt_of_pos _ m0⟩
    have hs : ∀ {Hx : Hp} {o u : HO}, Hx sc = some u → (upd Hx a o) sc = some u := fun h => by rw [upd_ne nsa]; exact h
    have hM : ∀ x y : Int, CMul (x % 2147483647) y := fun x y => .inl ⟨by have := Int.emod_nonneg x (show (2147483647 : Int) ≠ 0 by decide); omega, by have := Int.emod_lt_of_pos x (show (0 : Int) < 2147483647 by decide); omega⟩
    refine ⟨_, (pss_cons (ps_if (PW.pt (pw_and (pt_cmpR op_gt (pe_ix ix_list (pv 0) pe_int (fun _ _ => rfl)) pe_int (nomark _)) (pw_and1 (pt_cmpR op_lt (pe_ix ix_list (pv 0) pe_int (fun _ _ => rfl)) pe_int (nomark _))))) (pss_cons (ps_set (i := 2) sc_law_draw.nd rfl (Or.inl rfl) (pe_op op_mod (pe_callTy call_int1 (by rfl) T.f_int bt_int (pa_cons (pe_ix ix_list (pv 0) pe_int (fun _ _ => rfl)) pa_nil)) (pv 1)))
      (pss_cons (ps_asg (pe_op op_fdivW (pe_ix ix_list (pv 0) pe_int (fun _ _ => rfl)) (pv 1)) (pg_sub (pv 0) pe_int set_list))
      (pss_cons (ps_asg (pe_op op_add (pe_ix ix_list (pv 0) pe_int (fun _ _ => rfl)) pe_int) (pg_sub (pv 0) pe_int set_list))
      (pss_one (ps_ret (pv 2)))))) pss_nil)
      (pss_cons (ps_asg (pe_op op_add (pe_ix ix_list (pv 0) pe_int (fun _ _ => rfl)) pe_int) (pg_sub (pv 0) pe_int set_list))
      (pss_cons (ps_if (pt_cmpR op_lt (pe_ix ix_list (pv 0) pe_int (fun _ _ => rfl)) (pe_callB call_len_seq (by rfl) T.f_len bt_len (pa_cons (pe_ix ix_list (pv 0) pe_int (fun _ _ => rfl)) pa_nil)) (nomark _)) (pss_cons (ps_set (i := 3) sc_law_draw.nd rfl (Or.inl rfl) (pe_ix ix_list (pe_ix ix_list (pv 0) pe_int (fun _ _ => rfl)) (pe_ix ix_list (pv 0) pe_int (fun _ _ => rfl)) (fun _ _ => rfl)))
      (pss_cons (ps_asg (pe_op op_add (pe_ix ix_list (pv 0) pe_int (fun _ _ => rfl)) pe_int) (pg_sub (pv 0) pe_int set_list))
      (pss_cons (ps_asg (pe_op op_mod (pe_op op_add (pe_op op_mul (pe_ix ix_list (pv 0) pe_int (fun _ _ => rfl)) pe_int) (pe_callTy call_int1 (by rfl) T.f_int bt_int (pa_cons (pv 3) pa_nil))) (pe_op op_pow pe_int pe_int)) (pg_sub (pv 0) pe_int set_list))
      (pss_one (ps_if (pt_cmpR op_ge (pv 3) (pe_op op_pow pe_int pe_int) (nomark _)) (pss_cons (ps_asg (pe_op op_fdivW (pv 3) (pv 1)) (pg_sub (pv 0) pe_int set_list))
      (pss_cons (ps_asg pe_int (pg_sub (pv 0) pe_int set_list))
      (pss_one (ps_ret (pe_op op_mod (pe_callTy call_int1 (by rfl) T.f_int bt_int (pa_cons (pv 3) pa_nil)) (pv 1)))))) pss_nil))))) pss_nil)
      (pss_cons (ps_set (i := 4) sc_law_draw.nd rfl (Or.inl rfl) (pe_op op_mod (pe_op op_mul (pe_op op_add (pe_op op_add (pe_op op_mul (pe_callTy call_int1 (by rfl) T.f_int bt_int (pa_cons (pe_ix ix_list (pv 0) pe_int (fun _ _ => rfl)) pa_nil)) pe_int) (pe_op op_mul pe_int (pe_ix ix_list (pv 0) pe_int (fun _ _ => rfl)))) pe_int) pe_int) pe_int))
      (pss_cons (ps_set (i := 4) sc_law_draw.nd rfl (Or.inl rfl) (pe_op op_mod (pe_op op_mul (pv 4) (pe_op op_add (pe_op op_fdivW (pv 4) pe_int) pe_int)) pe_int))
      (pss_cons (ps_set (i := 4) sc_law_draw.nd rfl (Or.inl rfl) (pe_op op_mod (pe_op op_mul (pv 4) (pe_op op_add (pe_op op_fdivW (pv 4) pe_int) pe_int)) pe_int))
      (pss_one (ps_ret (pe_op op_mod (pe_callTy call_int1 (by rfl) T.f_int bt_int (pa_cons (pv 4) pa_nil)) (pv 1)))))))))), ?_⟩
    refine ⟨_, rfl, a, _, 2, _, rfl, rfl, SqL.of ha, rfl, _, _, rfl, rfl, _, rfl, ?_⟩
    rcases Classical.em (0 < i2 ∧ i3 < 60) with ⟨h1, h2⟩ | hn
    · rw [decide_eq_true h1]
      refine iteT ⟨_, rfl, a, _, 3, _, rfl, rfl, SqL.of ha, rfl, _, _, rfl, rfl, _, rfl, ?_⟩
      rw [decide_eq_true h2]
      refine iteT ?_
      refine ⟨_, rfl, a, _, 2, _, rfl, rfl, SqL.of ha, rfl, .inl ⟨_, rfl, _, rfl, _, _, rfl, rfl, m0, ?_⟩⟩
      refine ⟨_, rfl, a, _, 2, _, rfl, rfl, SqL.of ha, rfl, _, rfl, _, _, rfl, rfl, dv _, ?_⟩
      refine ⟨_, rfl, a, _, 2, 2, rfl, rfl, ha, rfl, ?_⟩
      have ha1 : (upd H a (.lst [.ref sc, .int i1, .int (i2 / m), .int i3, .int i4, .int i5])) a = some (.lst [.ref sc, .int i1, .int (i2 / m), .int i3, .int i4, .int i5]) := upd_same
      refine ⟨_, rfl, a, _, 3, _, rfl, rfl, SqL.of ha1, rfl, _, _, rfl, rfl, ?_⟩
      refine ⟨_, rfl, a, _, 3, 3, rfl, rfl, ha1, rfl, ?_⟩
      refine ⟨_, rfl, q _ _ ((Dr.refl a H).upd.upd) ⟨i1, i2 / m, i3 + 1, i4, i5, upd_same, by rw [upd_ne nsa, upd_ne nsa]; exact hsc⟩ (md i2).1 (md i2).2⟩
    · by_cases h1 : 0 < i2
      all_goals first
        | (rw [decide_eq_true h1]
           refine iteT ⟨_, rfl, a, _, 3, _, rfl, rfl, SqL.of ha, rfl, _, _, rfl, rfl, _, rfl, ?_⟩
           rw [decide_eq_false (fun h2 => hn ⟨h1, h2⟩)]
           refine iteF ?_)
        | (rw [decide_eq_false h1]
           refine iteF (iteF ?_))
      all_goals
        refine ⟨_, rfl, a, _, 4, _, rfl, rfl, SqL.of ha, rfl, _, _, rfl, rfl, ?_⟩
        refine ⟨_, rfl, a, _, 4, 4, rfl, rfl, ha, rfl, ?_⟩
        refine ⟨_, rfl, a, _, 1, _, rfl, rfl, SqL.of upd_same, rfl, _, rfl, a, _, 0, _, rfl, rfl, SqL.of upd_same, rfl, sc, _, rfl, .inl (SqL.of (hs hsc)), _, _, rfl, rfl, _, rfl, ?_⟩
        rw [List.length_map]
        rcases Classical.em (i1 < ns.length) with hi | hi
      all_goals first
        | (rw [decide_eq_true (by omega)]
           have gi : atI (ns.map V.int) (i1 : Int) = some (.int ns[i1]) := by
             rw [atI_nat (by rw [List.length_map]; exact hi), List.getElem?_map, List.getElem?_eq_getElem hi]; rfl
           refine iteT ?_
           refine ⟨_, rfl, a, _, 0, _, rfl, rfl, SqL.of upd_same, rfl, _, rfl, a, _, 1, _, rfl, rfl, SqL.of upd_same, rfl, sc, _, i1, .int ns[i1], rfl, rfl, SqL.of (hs hsc), gi, ?_⟩
           generalize ns[i1] = cell
           refine ⟨_, rfl, a, _, 1, _, rfl, rfl, SqL.of upd_same, rfl, _, _, rfl, rfl, ?_⟩
           refine ⟨_, rfl, a, _, 1, 1, rfl, rfl, upd_same, rfl, ?_⟩
           refine ⟨_, rfl, a, _, 5, _, rfl, rfl, SqL.of upd_same, rfl, _, _, rfl, rfl, .inr ⟨by decide, by decide⟩, _, rfl, .inl ⟨_, rfl, _, _, rfl, rfl, _, _, rfl, rfl, ⟨by decide, by decide, by decide⟩, _, _, rfl, rfl, (show (0 : Int) < 10 ^ 18 by decide), ?_⟩⟩
           refine ⟨_, rfl, a, _, 5, 5, rfl, rfl, upd_same, rfl, ?_⟩
           refine ⟨_, rfl, _, _, rfl, rfl, ⟨by decide, by decide, by decide⟩, _, _, rfl, rfl, _, rfl, ?_⟩
           refine ite2 (fun hc => ?_) (fun hc => ?_))
        | (rw [decide_eq_false (by omega)]
           refine iteF ?_)
      all_goals first
        | (refine ⟨_, rfl, _, rfl, _, _, rfl, rfl, dv _, ?_⟩
           refine ⟨_, rfl, a, _, 2, 2, rfl, rfl, upd_same, rfl, ?_⟩
           refine ⟨_, rfl, a, _, 3, 3, rfl, rfl, upd_same, rfl, ?_⟩
           exact ⟨_, rfl, .inl ⟨_, rfl, _, rfl, _, _, rfl, rfl, m0, q _ _ (by repeat (first | exact Dr.refl a H | apply Dr.upd)) ⟨i1 + 1, _, _, _, _, upd_same, hs (hs (hs (hs (hs hsc))))⟩ (md _).1 (md _).2⟩⟩)
        | (refine ⟨_, rfl, a, _, 5, _, rfl, rfl, SqL.of upd_same, rfl, .inl ⟨_, rfl, _, _, rfl, rfl, .inr ⟨by decide, by decide⟩, _, rfl, a, _, 4, _, rfl, rfl, SqL.of upd_same, rfl, _, _, rfl, rfl, .inl ⟨by decide, by decide⟩, _, _, rfl, rfl, _, _, rfl, rfl, _, _, rfl, rfl, .inr ⟨by decide, by decide⟩, _, _, rfl, rfl, (show (0 : Int) < 2147483647 by decide), ?_⟩⟩
           refine ⟨_, rfl, _, rfl, _, _, rfl, rfl, wide_div (b := 20) (by decide) (by decide) (by decide) (by decide), _, _, rfl, rfl, _, _, rfl, rfl, hM _ _, _, _, rfl, rfl, (show (0 : Int) < 2147483647 by decide), ?_⟩
           refine ⟨_, rfl, _, rfl, _, _, rfl, rfl, wide_div (b := 20) (by decide) (by decide) (by decide) (by decide), _, _, rfl, rfl, _, _, rfl, rfl, hM _ _, _, _, rfl, rfl, (show (0 : Int) < 2147483399 by decide), ?_⟩
           refine ⟨_, rfl, .inl ⟨_, rfl, _, rfl, _, _, rfl, rfl, m0, q _ _ (by repeat (first | exact Dr.refl a H | apply Dr.upd)) ?_ (md _).1 (md _).2⟩⟩
           first
             | exact ⟨i1, _, _, _, _, upd_same, hs hsc⟩
             | exact ⟨i1 + 1, _, _, _, _, upd_same, hs (hs (hs hsc))⟩)
end
end Bw
set_option Elab.async false
set_option linter.all false
set_option pp.maxSteps 300
set_option maxRecDepth 100000
set_option maxHeartbeats 4000000
/-! the law's own helpers: names, weights, arcs -/
namespace Bw
open PySem PySem.Spec PyProof.Rows L2 Bt Bs Bm
section
variable {P : Program} {w : World} {K : PySem.W.Frag} {mg : Str → Option Value} {base : Heap}
/-- a comprehension by an invariant of its own -/
theorem lcP {ι : Type} {G : Hp → Prop} {J : It} {its : List ι} {c : ι → V} {D : Addr} {H1 : Hp} (Sr : Src G J its c) (hz : its.length ≤ 100000) {g : TG} {te : TE} {vs : List Nat} {σ : L2.St} {Qd : Hp → Prop} (Pv : Nat → List V → Hp → Prop)
    (h0 : Pv 0 [] (upd H1 D (.lst []))) (hk : ∀ i ys H, Pv i ys H → G H ∧ H D = some (.lst ys) ∧ ys.length ≤ i)
    (hs : ∀ i it ys H, its[i]? = some it → Pv i ys H → g (c it) (wipe σ vs) H fun σ2 H2 => wipe σ2 vs = wipe σ vs ∧ te σ2 H2 fun y H4 => H4 D = some (.lst ys) ∧ Pv (i + 1) (ys ++ [y]) (upd H4 D (.lst (ys ++ [y]))))
    (hd : ∀ ys H, Pv its.length ys H → Qd H)
    (gm : ∀ v σ H (Q Q' : L2.St → Hp → Prop), (∀ σ2 H2, Q σ2 H2 → Q' σ2 H2) → g v σ H Q → g v σ H Q') (tm : ∀ σ H (Q Q' : VK), (∀ v H2, Q v H2 → Q' v H2) → te σ H Q → te σ H Q') :
    LcI J H1 D g tYes te σ vs Qd := by
  refine ⟨fun i m H => m = its.length - i ∧ i ≤ its.length ∧ ∃ ys, Pv i ys H, ⟨_, rfl, Nat.zero_le _, [], h0⟩, ?_⟩
  rintro i m H ⟨rfl, hi, ys, hp⟩
  obtain ⟨hG, hD, hl⟩ := hk i ys H hp
  by_cases hlt : i < its.length
  · refine .inr ⟨Sr.go i H hG hlt, fun H' => ∃ ys, Pv (i + 1) ys H', fun H' p' => ⟨its.length - (i + 1), by omega, rfl, hlt, p'⟩, fun x H' y => ?_⟩
    obtain ⟨rfl, it, hit, rfl⟩ := Sr.yld i H x H' hlt hG y
    refine gm _ _ _ _ _ (fun σ2 H2 h2 => ⟨h2.1, ?_⟩) (hs i it ys _ hit hp)
    unfold tYes
    dsimp only
    rw [if_pos rfl]
    exact tm _ _ _ _ (fun v H4 ⟨a, b⟩ => ⟨ys, a, Nat.lt_of_le_of_lt (show ys.length ≤ 100000 by omega) (by decide), _, b⟩) h2.2
  · have e : i = its.length := by omega
    subst e
    exact .inl ⟨Sr.stop H hG, hd ys H hp⟩
/-! ### sums, weights -/
abbrev N_law_sum : List Str := ["_law_weights_here", "_law_lot", "_law_thing"]
theorem sc_law_sum : FnScope N_law_sum ["_law_weights_here", "_law_lot"] (defScope s_law_sum) := ⟨rfl, rfl, rfl, by decide +kernel, rfl, by decide +kernel, by decide +kernel⟩
theorem c_law_sum (T : Txt K mg) : Call P w K mg base 1 "_law_sum" ["_law_weights_here", "_law_lot"] spTotal := by
  refine mkCall T.d_law_sum sc_law_sum (fun _ _ _ _ _ _ us hl => match us, hl with | [_, _], _ => rfl) (fun vs H Q E h => ?_) (fun cdv A outer s H vs Q E hr h => ?_)
  · obtain ⟨R, d, t, nm, As, wt, rfl, _⟩ := h; rfl
  · obtain ⟨R, d, t, nm, As, wt, rfl, wi, hd, ht, sub, l60, q⟩ := h
    have hu := hu_of hr
    refine ⟨_, (pss_one (ps_ret (pe_callB (cr_sum rfl) (by rfl) T.f_sum bt_sum (pa_cons (pe_lc (own := [("_law_thing", 2)]) (by rfl) sc_law_sum.nd (pi_tup (pv 1)) (blkOk_by (own := [("_law_thing", 2)]) (N := N_law_sum) (sc := defScope s_law_sum) (by decide +kernel)) (fun _ _ _ _ _ => (pg_name (i := 2) sc_law_sum.nd rfl (by first | exact Or.inl rfl | exact Or.inr rfl))) (fun _ _ _ _ _ => pts_nil) (fun _ _ _ _ _ => (pe_dget hu (pv 0) (pv 2) (fun _ _ => rfl)))) pa_nil)))), ?_⟩
    refine ⟨_, rfl, t, rfl, ⟨_, SqT.of ht⟩, fun D hD => ?_⟩
    refine lcA hD (src_tup (c := V.str) (its := As) ht) wi (by omega) (fun x => .int (wt x)) (fun _ => rfl) (fun x hx H1 k Q' q' => ?_) fun H1 k e => ?_
    · exact ⟨_, rfl, _, rfl, d, _, rfl, wt_get (k.at hd) (sub x hx), q' H1 (Kp.refl k.w)⟩
    · exact ⟨D, As.map wt, rfl, SqL.of (by rw [e, List.map_map]; rfl), q H1 k⟩
def spTotalL : Sp := fun vs H Q _ => ∃ (R : Reg) (d t : Addr) (nm A : List Str) (wt : Str → Int), vs = [.ref d, .ref t] ∧ WInv R H ∧ H d = some (.dK (wtD nm wt)) ∧ H t = some (.lst (A.map V.str)) ∧ (∀ x, x ∈ A → x ∈ nm) ∧ A.length ≤ 60 ∧ ∀ H', Kp R H H' → Q (.int (A.map wt).sum) H'
theorem c_law_sumL (T : Txt K mg) : Call P w K mg base 1 "_law_sum" ["_law_weights_here", "_law_lot"] spTotalL := by
  refine mkCall T.d_law_sum sc_law_sum (fun _ _ _ _ _ _ us hl => match us, hl with | [_, _], _ => rfl) (fun vs H Q E h => ?_) (fun cdv A outer s H vs Q E hr h => ?_)
  · obtain ⟨R, d, t, nm, As, wt, rfl, _⟩ := h; rfl
  · obtain ⟨R, d, t, nm, As, wt, rfl, wi, hd, ht, sub, l60, q⟩ := h
    have hu := hu_of hr
    refine ⟨_, (pss_one (ps_ret (pe_callB (cr_sum rfl) (by rfl) T.f_sum bt_sum (pa_cons (pe_lc (own := [("_law_thing", 2)]) (by rfl) sc_law_sum.nd (pi_list (pv 1)) (blkOk_by (own := [("_law_thing", 2)]) (N := N_law_sum) (sc := defScope s_law_sum) (by decide +kernel)) (fun _ _ _ _ _ => (pg_name (i := 2) sc_law_sum.nd rfl (by first | exact Or.inl rfl | exact Or.inr rfl))) (fun _ _ _ _ _ => pts_nil) (fun _ _ _ _ _ => (pe_dget hu (pv 0) (pv 2) (fun _ _ => rfl)))) pa_nil)))), ?_⟩
    refine ⟨_, rfl, t, rfl, ⟨_, SqL.of ht⟩, fun D hD => ?_⟩
    refine lcA hD (src_lst (c := V.str) (its := As) ht) wi (by omega) (fun x => .int (wt x)) (fun _ => rfl) (fun x hx H1 k Q' q' => ?_) fun H1 k e => ?_
    · exact ⟨_, rfl, _, rfl, d, _, rfl, wt_get (k.at hd) (sub x hx), q' H1 (Kp.refl k.w)⟩
    · exact ⟨D, As.map wt, rfl, SqL.of (by rw [e, List.map_map]; rfl), q H1 k⟩
theorem merge_wtD {nm : List Str} (nd : nm.Nodup) (wt : Str → Int) : mergeK [] (wtD nm wt) = wtD nm wt := by
  have h : ∀ (l pre : List Str), (pre ++ l).Nodup → (wtD l wt).foldl (fun acc kv => putK acc kv.1 kv.2) (wtD pre wt) = wtD (pre ++ l) wt := by
    intro l
    induction l with
    | nil => intro pre _; rw [List.append_nil]; rfl
    | cons x l ih =>
      intro pre hn
      have hx : x ∉ pre := fun hq => by
        rw [List.nodup_append] at hn
        exact hn.2.2 x hq x List.mem_cons_self rfl
      show (wtD l wt).foldl _ (putK (wtD pre wt) (Sum.inr x) (.int (wt x))) = _
      rw [putK_new _ (dfn_no hx)]
      have e : (wtD pre wt ++ [((Sum.inr x : Key), V.int (wt x))]) = wtD (pre ++ [x]) wt := (show wtD (pre ++ [x]) wt = wtD pre wt ++ wtD [x] wt from List.map_append).symm
      rw [e, ih (pre ++ [x]) (by rw [List.append_assoc]; exact hn), List.append_assoc]
      rfl
  exact h nm [] nd
/-- what a web, a table, a family are made of is not the state -/
theorem ka_of {a : Addr} {R : Reg} {H0 H H' : Hp} (k0 : Kp R H0 H) (h0 : H0 a = none) (k : KA a H H') : ∀ b o, H0 b = some o → isT o = false → H' b = some o := fun b o e n => k b o (k0.ex.old b o e n) (ne_of_none e h0) n
theorem StS.ne {H : Hp} {a sc b : Addr} {ns : List Int} (h : StS H a sc ns) (e : H b = none) : b ≠ a := fun q => by
  obtain ⟨_, _, _, _, _, e', _⟩ := h
  rw [q, e'] at e; cases e
theorem StS.nes {H : Hp} {a sc b : Addr} {ns : List Int} (h : StS H a sc ns) (e : H b = none) : b ≠ sc := fun q => by
  obtain ⟨_, _, _, _, _, _, e'⟩ := h
  rw [q, e'] at e; cases e
theorem StS.updn {H : Hp} {a sc b : Addr} {ns : List Int} {o : HO} (h : StS H a sc ns) (n : b ≠ a) (n' : b ≠ sc) : StS (upd H b o) a sc ns := by
  obtain ⟨i1, i2, i3, i4, i5, h1, h2⟩ := h
  exact ⟨i1, i2, i3, i4, i5, by rw [upd_ne n.symm]; exact h1, by rw [upd_ne n'.symm]; exact h2⟩
theorem w_dr {R : Reg} {H H' : Hp} {a sc : Addr} {ns : List Int} (wi : WInv R H) (s : StS H a sc ns) (h : Dr a H H') : WInv R H' := fun d nm r e => by
  obtain ⟨kvs, e1, m⟩ := wi d nm r e
  obtain ⟨_, _, _, _, _, e', _⟩ := s
  exact ⟨kvs, h.at e1 (fun z => by rw [z, e'] at e1; cases e1), m⟩
theorem dr_fr {a sc : Addr} {ns : List Int} {H H' : Hp} (s : StS H' a sc ns) (h : Dr a H H') (b : Addr) (e : H' b = none) : H b = none := by
  rw [← h b (s.ne e)]; exact e
/-- the state, and all else that stands, behind draws and new things -/
structure SK (R : Reg) (a sc : Addr) (ns : List Int) (H H' : Hp) : Prop where
  ka : KA a H H'
  w : WInv R H'
  st : StS H' a sc ns
  fr : ∀ b, H' b = none → H b = none
section
variable {R : Reg} {a sc b : Addr} {ns : List Int} {H H1 H2 : Hp} {o : HO}
theorem SK.refl (w : WInv R H) (s : StS H a sc ns) : SK R a sc ns H H := ⟨KA.refl a H, w, s, fun _ h => h⟩
theorem SK.dr (k : SK R a sc ns H H1) (d : Dr a H1 H2) (s : StS H2 a sc ns) : SK R a sc ns H H2 := ⟨k.ka.dr d, w_dr k.w k.st d, s, fun b e => k.fr b (dr_fr s d b e)⟩
theorem SK.kp (k : SK R a sc ns H H1) (p : Kp R H1 H2) : SK R a sc ns H H2 := ⟨k.ka.kp p, p.w, k.st.kp p, fun b e => k.fr b (p.fr e)⟩
/-- an object that was not there may change -/
theorem SK.mut (k : SK R a sc ns H H1) (s0 : StS H a sc ns) (n : H b = none) (hd : ∀ d y, R d = some y → d ≠ b) : SK R a sc ns H (upd H1 b o) := by
  refine ⟨fun c u h nc hT => ?_, fun d nm r e => ?_, k.st.updn (s0.ne n) (s0.nes n), fun c e => ?_⟩
  · rw [upd_ne (ne_of_none h n)]; exact k.ka c u h nc hT
  · obtain ⟨kvs, e1, m⟩ := k.w d nm r e
    exact ⟨kvs, by rw [upd_ne (hd d _ e)]; exact e1, m⟩
  · by_cases q : c = b
    · rw [q]; exact n
    · rw [upd_ne q] at e; exact k.fr c e
theorem SK.at (k : SK R a sc ns H H1) (h : H b = some o) (n : b ≠ a) (hT : isT o = false := by rfl) : H1 b = some o := k.ka b o h n hT
theorem SK.trans (k : SK R a sc ns H H1) (l : SK R a sc ns H1 H2) : SK R a sc ns H H2 := ⟨k.ka.trans l.ka, l.w, l.st, fun b e => k.fr b (l.fr b e)⟩
end
def spWeights : Sp := fun vs H Q _ => ∃ (R : Reg) (a sc t : Addr) (ns : List Int) (nm : List Str), vs = [.ref a, .ref t] ∧ WInv R H ∧ StS H a sc ns ∧ H t = some (.lst (nm.map V.str)) ∧ t ≠ a ∧ nm.Nodup ∧ nm.length ≤ 8 ∧
  ∀ H' d wt, SK R a sc ns H H' → H d = none → H' d = some (.dK (wtD nm wt)) → Q (.ref d) H'
abbrev N_law_weights : List Str := ["_law_state_here", "_law_things", "_law_wide", "_law_thing"]
theorem sc_law_weights : FnScope N_law_weights ["_law_state_here", "_law_things"] (defScope s_law_weights) := ⟨rfl, rfl, rfl, by decide +kernel, rfl, by decide +kernel, by decide +kernel⟩
theorem c_law_weights (T : Txt K mg) : Call P w K mg base 2 "_law_weights" ["_law_state_here", "_law_things"] spWeights := by
  refine mkCall T.d_law_weights sc_law_weights (fun _ _ _ _ _ _ us hl => match us, hl with | [_, _], _ => rfl) (fun vs H Q E h => ?_) (fun cdv A outer s H vs Q E hr h => ?_)
  · obtain ⟨R, a, sc, t, ns, nm, rfl, _⟩ := h; rfl
  · obtain ⟨R, a, sc, t, ns, nm, rfl, wi, st, ht, nta, nd, l8, q⟩ := h
    refine ⟨_, (pss_cons (ps_set (i := 2) sc_law_weights.nd rfl (Or.inr rfl) (pe_ix ix_list (pe_lst (pa_cons pe_int (pa_cons pe_int (pa_cons pe_int (pa_cons pe_int (pa_cons (pe_op op_pow pe_int pe_int) pa_nil)))))) (pe_f (c_law_draw T) hr (pa_cons (pv 0) (pa_cons pe_int pa_nil))) (fun _ _ => rfl)))
      (pss_one (ps_ret (pe_callTy (call_dictP rfl) (by rfl) T.f_dict bt_dict (pa_cons (pe_lc (own := [("_law_thing", 3)]) (by rfl) sc_law_weights.nd (pi_list (pv 1)) (blkOk_by (own := [("_law_thing", 3)]) (N := N_law_weights) (sc := defScope s_law_weights) (by decide +kernel)) (fun _ _ _ _ _ => (pg_name (i := 3) sc_law_weights.nd rfl (by first | exact Or.inl rfl | exact Or.inr rfl))) (fun _ _ _ _ _ => pts_nil) (fun _ _ _ _ _ => (pe_tup (pa_cons (pv 3) (pa_cons (pe_op op_sub (pe_f (c_law_draw T) hr (pa_cons (pv 0) (pa_cons (pe_op op_add (pe_op op_mul pe_int (pv 2)) pe_int) pa_nil))) (pv 2)) pa_nil))))) pa_nil))))), ?_⟩
    refine ⟨_, _, rfl, rfl, ⟨by decide, by decide, by decide⟩, by show 5 ≤ sizeLine; decide, fun l nl => ?_⟩
    have s1 := (SK.refl wi st).kp (Kp.upd wi nl (o := .lst [.int 3, .int 5, .int 9, .int 2, .int (10 ^ 20)]))
    refine ⟨_, rfl, a, sc, ns, 5, rfl, by decide, by decide, s1.st, fun H2 d dr st2 d0 d5 => ?_⟩
    have s2 := s1.dr dr st2
    obtain ⟨n, rfl⟩ : ∃ n : Nat, d = (n : Int) := ⟨d.toNat, by omega⟩
    have hn : n < 5 := by omega
    obtain ⟨wd, hwd, w0, w1⟩ : ∃ wd : Int, ([V.int 3, V.int 5, V.int 9, V.int 2, V.int (10 ^ 20)])[n]? = some (.int wd) ∧ 1 ≤ wd ∧ wd ≤ 10 ^ 20 := by
      match n, hn with
      | 0, _ => exact ⟨3, rfl, by decide, by decide⟩
      | 1, _ => exact ⟨5, rfl, by decide, by decide⟩
      | 2, _ => exact ⟨9, rfl, by decide, by decide⟩
      | 3, _ => exact ⟨2, rfl, by decide, by decide⟩
      | 4, _ => exact ⟨10 ^ 20, rfl, by decide, by decide⟩
    have hl2 := dr.at (upd_same : (upd H l (.lst [.int 3, .int 5, .int 9, .int 2, .int (10 ^ 20)])) l = _) (st.ne nl)
    refine ⟨l, _, (n : Int), .int wd, rfl, rfl, SqL.of hl2, (atI_nat (by show n < 5; exact hn)).trans hwd, ?_⟩
    have ht2 := s2.at ht nta
    refine ⟨_, rfl, t, rfl, ⟨_, SqL.of ht2⟩, fun D hD => ?_⟩
    have nD := s2.fr D hD
    have s3 := s2.kp (Kp.upd s2.w hD (o := .lst []))
    refine lcP (c := V.str) (its := nm) (G := fun H3 => H3 t = some (.lst (nm.map V.str))) (src_lstG fun _ g => g) (by omega)
      (fun i ys H3 => SK R a sc ns H H3 ∧ H3 D = some (.lst ys) ∧ ∃ (wt : Str → Int) (ps : List Addr), ys = ps.map V.ref ∧ Paired (fun p x => p ≠ D ∧ p ≠ a ∧ H3 p = some (.tup [.str x, .int (wt x)])) ps (nm.take i))
      ⟨s3, upd_same, fun _ => 0, [], rfl, .nil⟩ (fun i ys H3 ⟨a1, a6, wt, ps, e, pr⟩ => ⟨a1.at ht nta, a6, by rw [e, List.length_map, pr.length, List.length_take]; exact Nat.min_le_left _ _⟩) (fun i x ys H3 hx hP => ?_) (fun ys H3 hP => ?_) (fun v σ H Q Q' h q => h _ _ q) (fun σ H Q Q' h q => ?_)
    · obtain ⟨sk, hD3, wt, ps, rfl, pr⟩ := hP
      refine ⟨rfl, _, rfl, _, rfl, _, rfl, _, _, rfl, rfl, .inl ⟨by decide, by decide⟩, _, _, rfl, rfl, a, sc, ns, _, rfl, by omega, by omega, sk.st, fun H4 e dr4 st4 e0 e1 => ?_⟩
      have sk4 := sk.dr dr4 st4
      refine ⟨_, rfl, _, _, rfl, rfl, by show 2 ≤ sizeLine; decide, fun z nz => ?_⟩
      have hD4 := dr4.at hD3 (st.ne nD)
      have kz := Kp.upd sk4.w nz (o := .tup [.str x, .int (e - wd)])
      have nDz : D ≠ z := ne_of_none hD4 nz
      have nza := st4.ne nz
      refine ⟨kz.at hD4, (sk4.kp kz).mut st nD (fun d y hd => (wi.ne hd nD)), upd_same, fun y => if y = x then e - wd else wt y, ps ++ [z], by rw [List.map_append]; rfl, ?_⟩
      rw [take_succ_at hx]
      have aux : ∀ {ps : List Addr} {xs : List Str} {Hx : Hp}, (∀ p o, p ≠ D → p ≠ a → H3 p = some o → Hx p = some o) → (∀ y, y ∈ xs → y ≠ x) → Paired (fun p x => p ≠ D ∧ p ≠ a ∧ H3 p = some (.tup [.str x, .int (wt x)])) ps xs → Paired (fun p y => p ≠ D ∧ p ≠ a ∧ Hx p = some (.tup [.str y, .int (if y = x then e - wd else wt y)])) ps xs := by
        intro ps xs Hx hH hne pp
        induction pp with
        | nil => exact .nil
        | cons r t ih =>
          obtain ⟨r1, r2, r3⟩ := r
          refine .cons ⟨r1, r2, ?_⟩ (ih fun y hy => hne y (List.mem_cons_of_mem _ hy))
          rw [if_neg (hne _ List.mem_cons_self)]
          exact hH _ _ r1 r2 r3
      refine paired_app (aux (fun p o p1 p2 h => ?_) (fun y hy q => take_not nd hx (q ▸ hy)) pr) (.cons ⟨nDz.symm, nza, ?_⟩ .nil)
      · have h4 := dr4.at h p2
        rw [upd_ne p1, upd_ne (ne_of_none h4 nz)]; exact h4
      · rw [upd_ne nDz.symm, upd_same]
        show some (HO.tup [V.str x, V.int (e - wd)]) = some (HO.tup [V.str x, V.int (if x = x then e - wd else wt x)])
        rw [if_pos rfl]
    · obtain ⟨sk, hD3, wt, ps, rfl, pr⟩ := hP
      rw [List.take_length] at pr
      refine ⟨D, ps, wtD nm wt, rfl, SqL.of hD3, ?_, fun p np => ?_⟩
      · have aux : ∀ {ps : List Addr} {xs : List Str}, Paired (fun p x => p ≠ D ∧ p ≠ a ∧ H3 p = some (.tup [.str x, .int (wt x)])) ps xs → Paired (fun p (kv : Key × V) => SqT K H3 p [kV kv.1, kv.2]) ps (wtD xs wt) := by
          intro ps xs pp
          induction pp with
          | nil => exact .nil
          | cons r t ih => exact .cons (SqT.of r.2.2) ih
        exact aux pr
      · rw [merge_wtD nd]
        exact q _ p wt (sk.kp (Kp.upd sk.w np)) (sk.fr p np) upd_same
    · obtain ⟨x1, e1, x2, e2, x3, e3, x4, x5, e4, e5, c1, x6, x7, e6, e7, a', sc', ns', m', e8, m0, m1, st', q'⟩ := q
      exact ⟨x1, e1, x2, e2, x3, e3, x4, x5, e4, e5, c1, x6, x7, e6, e7, a', sc', ns', m', e8, m0, m1, st', fun H' d dr s' d0 d1 => by
        obtain ⟨y1, f1, y2, y3, f2, f3, sz, q''⟩ := q' H' d dr s' d0 d1
        exact ⟨y1, f1, y2, y3, f2, f3, sz, fun p np => h _ _ (q'' p np)⟩⟩
end
end Bw
set_option Elab.async false
set_option linter.all false
set_option pp.maxSteps 300
set_option maxRecDepth 100000
set_option maxHeartbeats 4000000
/-! the law's own helpers: names, arcs -/
namespace Bw
open PySem PySem.Spec PyProof.Rows L2 Bt Bs Bm
def cAM : List Nat := ("abcdefghijklm" : Str).cps.toList
def cNZ : List Nat := ("nopz" : Str).cps.toList
def cQS : List Nat := ("qrstuvwxy" : Str).cps.toList
def cLT : List Nat := ("abcdefghijklmnopqrstuvwxyz" : Str).cps.toList
theorem am_lt : ∀ c, c ∈ cAM → c ∈ cLT := by decide +kernel
theorem nz_lt : ∀ c, c ∈ cNZ → c ∈ cLT := by decide +kernel
theorem qs_lt : ∀ c, c ∈ cQS → c ∈ cLT := by decide +kernel
theorem qs_am : ∀ c, c ∈ cQS → c ∉ cAM := by decide +kernel
theorem qs_nd : cQS.Nodup := by decide +kernel
theorem am_len : cAM.length = 13 := by decide +kernel
theorem nz_len : cNZ.length = 4 := by decide +kernel
theorem qs_len : cQS.length = 9 := by decide +kernel
theorem pick {l : List Nat} {d : Int} (h0 : 0 ≤ d) (h1 : d < l.length) : ∃ c, c ∈ l ∧ atI l d = some c := by
  obtain ⟨n, rfl⟩ : ∃ n : Nat, d = (n : Int) := ⟨d.toNat, by omega⟩
  have hn : n < l.length := by omega
  exact ⟨l[n], List.getElem_mem hn, by rw [atI_nat hn, List.getElem?_eq_getElem hn]⟩
theorem name_one {c : Nat} (h : c ∈ cLT) : IsName ⟨#[c]⟩ := ⟨by show 1 ≤ 1; decide, by show 1 ≤ 8; decide, fun x hx => by
  have : x ∈ [c] := hx
  rw [List.mem_singleton.mp this]; exact h⟩
theorem cps_rep (c e n : Nat) : ((⟨#[c]⟩ : Str) ++ (⟨(List.replicate n (⟨#[e]⟩ : Str).cps.toList).flatten.toArray⟩ : Str)).cps.toList = c :: List.replicate n e := by
  have h : (List.replicate n (⟨#[e]⟩ : Str).cps.toList).flatten = List.replicate n e := by
    show (List.replicate n [e]).flatten = _
    induction n with
    | zero => rfl
    | succ n ih => rw [List.replicate_succ, List.flatten_cons, ih]; rfl
  show (#[c] ++ (List.replicate n (⟨#[e]⟩ : Str).cps.toList).flatten.toArray).toList = _
  rw [h, Array.toList_append, List.toList_toArray]; rfl
theorem name_rep {c e n : Nat} (h : c ∈ cLT) (h2 : e ∈ cLT) (hn : n ≤ 7) : IsName ((⟨#[c]⟩ : Str) ++ (⟨(List.replicate n (⟨#[e]⟩ : Str).cps.toList).flatten.toArray⟩ : Str)) := by
  unfold IsName
  rw [cps_rep]
  refine ⟨by rw [List.length_cons]; omega, by rw [List.length_cons, List.length_replicate]; omega, fun x hx => ?_⟩
  rcases List.mem_cons.mp hx with q | q
  · exact q ▸ h
  · exact (List.mem_replicate.mp q).2 ▸ h2
theorem slice6 (z : Str) : Txt.slice z none (some 6) = ⟨(z.cps.toList.take 6).toArray⟩ := by
  have := SX.slice_to (a := z.cps.toList) (i := 6) (by decide)
  have e : SX.S z.cps.toList = z := by show (⟨z.cps.toList.toArray⟩ : Str) = z; rw [Array.toArray_toList]
  rw [e] at this
  exact this
theorem cps_cut (q : Nat) (z : Str) : ((⟨#[q]⟩ : Str) ++ Txt.slice z none (some 6)).cps.toList = q :: z.cps.toList.take 6 := by
  rw [slice6]
  show (#[q] ++ (z.cps.toList.take 6).toArray).toList = _
  rw [Array.toList_append, List.toList_toArray]; rfl
theorem name_cut {q : Nat} {z : Str} (h : q ∈ cLT) (hz : IsName z) : IsName ((⟨#[q]⟩ : Str) ++ Txt.slice z none (some 6)) := by
  unfold IsName
  rw [cps_cut]
  refine ⟨by rw [List.length_cons]; omega, by rw [List.length_cons, List.length_take]; omega, fun x hx => ?_⟩
  rcases List.mem_cons.mp hx with e | e
  · exact e ▸ h
  · exact hz.2.2 x (List.mem_of_mem_take e)
/-- the first letters of names made so far -/
def HdOk (k : Nat) (x : Str) : Prop := ∃ c, x.cps.toList.head? = some c ∧ (c ∈ cAM ∨ ∃ j, j < k ∧ cQS[j]? = some c)
section
variable {P : Program} {w : World} {K : PySem.W.Frag} {mg : Str → Option Value} {base : Heap}
def spNames : Sp := fun vs H Q _ => ∃ (R : Reg) (a sc : Addr) (ns : List Int) (m : Nat), vs = [.ref a, .int m] ∧ WInv R H ∧ StS H a sc ns ∧ m ≤ 8 ∧
  ∀ H' l nm, SK R a sc ns H H' → H l = none → H' l = some (.lst (nm.map V.str)) → SS nm → nm.length = m → (∀ x, x ∈ nm → IsName x) → Q (.ref l) H'
abbrev N_law_names : List Str := ["_law_state_here", "_law_many", "_law_found", "_law_k", "_law_name"]
theorem sc_law_names : FnScope N_law_names ["_law_state_here", "_law_many"] (defScope s_law_names) := ⟨rfl, rfl, rfl, by decide +kernel, rfl, by decide +kernel, by decide +kernel⟩
theorem c_law_names (T : Txt K mg) : Call P w K mg base 2 "_law_names" ["_law_state_here", "_law_many"] spNames := by
  refine mkCall T.d_law_names sc_law_names (fun _ _ _ _ _ _ us hl => match us, hl with | [_, _], _ => rfl) (fun vs H Q E h => ?_) (fun cdv A outer s H vs Q E hr h => ?_)
  · obtain ⟨R, a, sc, ns, m, rfl, _⟩ := h; rfl
  · obtain ⟨R, a, sc, ns, m, rfl, wi, st, m8, q⟩ := h
    refine ⟨_, (pss_cons (ps_set (i := 2) sc_law_names.nd rfl (Or.inl rfl) (pe_lst pa_nil))
      (pss_cons (ps_for PassesOwn.never rfl (pi_range1 (by rfl) T.f_range (pa_cons (pv 1) pa_nil)) (pg_name (i := 3) sc_law_names.nd rfl (by first | exact Or.inl rfl | exact Or.inr rfl)) (pss_cons (ps_set (i := 4) sc_law_names.nd rfl (Or.inl rfl) (pe_ix ix_str pe_str (pe_f (c_law_draw T) hr (pa_cons (pv 0) (pa_cons pe_int pa_nil))) (fun _ _ => rfl)))
      (pss_cons (ps_if (pt_cmpR op_eq (pe_f (c_law_draw T) hr (pa_cons (pv 0) (pa_cons pe_int pa_nil))) pe_int (nomark _)) (pss_one (ps_set (i := 4) sc_law_names.nd rfl (Or.inl rfl) (pe_op op_add_str (pv 4) (pe_op op_mul_str (pe_ix ix_str pe_str (pe_f (c_law_draw T) hr (pa_cons (pv 0) (pa_cons pe_int pa_nil))) (fun _ _ => rfl)) (pe_op op_add pe_int (pe_f (c_law_draw T) hr (pa_cons (pv 0) (pa_cons pe_int pa_nil)))))))) pss_nil)
      (pss_cons (ps_if (pt_cmpR op_in_seq (pv 4) (pv 2) (by rfl)) (pss_one (ps_set (i := 4) sc_law_names.nd rfl (Or.inl rfl) (pe_op op_add_str (pe_ix ix_str pe_str (pv 3) (fun _ _ => rfl)) (pe_slice C8.sl_txt (pv 4) po_none (po_some pe_int))))) pss_nil)
      (pss_one (ps_expr (pe_bm PySem.F.plainAttrs_list PySem.F.slot_list_append PySem.F.type_list_append mt_append (pv 2) (pa_cons (pv 4) pa_nil))))))))
      (pss_one (ps_ret (pe_callB cr_sortedS (by rfl) T.f_sorted bt_sorted (pa_cons (pv 2) pa_nil)))))), ?_⟩
    refine ⟨Nat.zero_le _, fun l nl => ?_⟩
    have nla := st.ne nl
    have s1 := (SK.refl wi st).kp (Kp.upd wi nl (o := .lst []))
    refine ⟨_, rfl, (m : Int), rfl, by omega, by omega, ?_⟩
    refine forG (G := fun _ => True) (src_rng (lo := 0) (n := m)) (fun i σ H2 => ∃ (F : List Str) (v3 v4 : Option V), σ = [some (.ref a), some (.int m), some (.ref l), v3, v4] ∧ SK R a sc ns H H2 ∧ H2 l = some (.lst (F.map V.str)) ∧ F.length = i ∧ F.Nodup ∧ (∀ x, x ∈ F → IsName x ∧ HdOk i x)) (fun _ _ _ _ => trivial)
      ⟨[], none, none, rfl, s1, upd_same, rfl, List.nodup_nil, fun x hx => by cases hx⟩ ?_ ?_
    · rintro i it σ H2 hi ⟨F, v3, v4, rfl, s2, hl, lF, ndF, hF⟩
      have him : i < m := by have := (List.getElem?_eq_some_iff.mp hi).1; rw [List.length_range] at this; exact this
      have eit : it = i := by
        have := (List.getElem?_eq_some_iff.mp hi).2
        rw [List.getElem_range] at this
        exact this.symm
      subst eit
      refine ⟨_, rfl, a, sc, ns, 13, rfl, by decide, by decide, s2.st, fun H3 d3 dr3 st3 d30 d31 => ?_⟩
      obtain ⟨c, hc, gc⟩ := pick (l := cAM) d30 (by rw [am_len]; exact d31)
      refine ⟨_, d3, c, rfl, rfl, by decide +kernel, gc, ?_⟩
      have s3 := s2.dr dr3 st3
      have hl3 := dr3.at hl nla
      refine ⟨_, rfl, a, sc, ns, 3, rfl, by decide, by decide, st3, fun H4 d4 dr4 st4 _ _ => ⟨rfl, _, rfl, ?_⟩⟩
      have s4 := s3.dr dr4 st4
      have hl4 := dr4.at hl3 nla
      refine ite2 (fun hq => ?_) (fun hq => ?_)
      all_goals first
        | (refine ⟨_, rfl, _, rfl, a, sc, ns, 4, rfl, by decide, by decide, st4, fun H5 d5 dr5 st5 d50 d51 => ?_⟩
           obtain ⟨e, he, ge⟩ := pick (l := cNZ) d50 (by rw [nz_len]; exact d51)
           refine ⟨_, d5, e, rfl, rfl, by decide +kernel, ge, _, rfl, a, sc, ns, 7, rfl, by decide, by decide, st5, fun H6 d6 dr6 st6 d60 d61 => ?_⟩
           have hz := name_rep (am_lt c hc) (nz_lt e he) (n := (1 + d6).toNat) (by omega)
           have hh : ∃ c', ((⟨#[c]⟩ : Str) ++ (⟨(List.replicate (1 + d6).toNat (⟨#[e]⟩ : Str).cps.toList).flatten.toArray⟩ : Str)).cps.toList.head? = some c' ∧ c' ∈ cAM := ⟨c, by rw [cps_rep]; rfl, hc⟩
           have l8 : ((⟨(List.replicate (1 + d6).toNat (⟨#[e]⟩ : Str).cps.toList).flatten.toArray⟩ : Str)).length ≤ 8 := by
             have h1 := hz.2.1
             rw [cps_rep, List.length_cons, List.length_replicate] at h1
             have h2 : (List.replicate (1 + d6).toNat [e]).flatten.length = (1 + d6).toNat := by simp
             show (List.replicate (1 + d6).toNat [e]).flatten.toArray.size ≤ 8
             rw [List.size_toArray, h2]; omega
           refine ⟨_, _, rfl, rfl, _, _, rfl, rfl, by omega, by omega, (by show 1 ≤ 1000; decide), _, _, rfl, rfl, Nat.le_trans (Nat.add_le_add_left l8 _) (by show 1 + 8 ≤ sizeLine; decide), ?_⟩
           have sn := (s4.dr dr5 st5).dr dr6 st6
           have hln := dr6.at (dr5.at hl4 nla) nla
           generalize ((⟨#[c]⟩ : Str) ++ (⟨(List.replicate (1 + d6).toNat (⟨#[e]⟩ : Str).cps.toList).flatten.toArray⟩ : Str)) = z at hz hh ⊢)
        | (have hz := name_one (am_lt c hc)
           have hh : ∃ c', (⟨#[c]⟩ : Str).cps.toList.head? = some c' ∧ c' ∈ cAM := ⟨c, rfl, hc⟩
           have sn := s4
           have hln := hl4
           show tSeq _ _ _ _ _
           generalize (⟨#[c]⟩ : Str) = z at hz hh ⊢)
      all_goals
        refine ⟨_, rfl, _, rfl, l, F.map V.str, rfl, .inl (SqL.of hln), rfl, flat_strs _, _, rfl, ?_⟩
        rw [if_neg Bool.false_ne_true, inV_str]
        have lz : z.length ≤ 8 := by
          have h1 := hz.2.1
          rw [Array.length_toList] at h1
          exact h1
        by_cases hin : z ∈ F
        · rw [decide_eq_true hin]
          obtain ⟨qc, hqc, gq⟩ := pick (l := cQS) (d := 0 + (it : Int)) (by omega) (by rw [qs_len]; omega)
          have gq' : cQS[it]? = some qc := by
            rw [Int.zero_add, atI_nat (by rw [qs_len]; omega)] at gq
            exact gq
          have hz' := name_cut (qs_lt qc hqc) hz
          have l6 : (Txt.slice z none (some 6)).length ≤ 8 := by
            rw [slice6]
            show (z.cps.toList.take 6).toArray.size ≤ 8
            rw [List.size_toArray, List.length_take]; omega
          have hne : ((⟨#[qc]⟩ : Str) ++ Txt.slice z none (some 6)) ∉ F := fun hq => by
            obtain ⟨_, c', h1, h2⟩ := hF _ hq
            rw [cps_cut] at h1
            cases h1
            rcases h2 with h2 | ⟨j, h3, h4⟩
            · exact qs_am qc hqc h2
            · exact pw_get qs_nd h4 gq' h3 rfl
          refine iteT ⟨_, rfl, _, _, qc, rfl, rfl, by decide +kernel, gq, _, rfl, 6, rfl, z, rfl, Nat.le_trans lz (by decide), _, _, rfl, rfl, Nat.le_trans (Nat.add_le_add_left l6 _) (by show 1 + 8 ≤ sizeLine; decide), ?_⟩
          refine ⟨_, rfl, .inl ⟨rfl, _, SqL.of hln⟩, _, rfl, l, _, _, rfl, rfl, hln, by rw [List.length_map, lF]; exact Nat.lt_of_le_of_lt (show it ≤ 8 by omega) (by decide), ?_⟩
          refine ⟨F ++ [(⟨#[qc]⟩ : Str) ++ Txt.slice z none (some 6)], _, _, rfl, sn.mut st nl (fun d y hd => wi.ne hd nl), by rw [upd_same, List.map_append]; rfl, by rw [List.length_append, lF]; rfl, ?_, fun x hx => ?_⟩
          · rw [List.nodup_append]
            exact ⟨ndF, by simp, fun x hx y hy exy => hne (by rw [← List.mem_singleton.mp hy, ← exy]; exact hx)⟩
          · rcases List.mem_append.mp hx with hx | hx
            · obtain ⟨h1, c', h2, h3⟩ := hF x hx
              exact ⟨h1, c', h2, h3.imp id fun ⟨j, h4, h5⟩ => ⟨j, by omega, h5⟩⟩
            · rw [List.mem_singleton.mp hx]
              exact ⟨hz', qc, by rw [cps_cut]; rfl, .inr ⟨it, by omega, gq'⟩⟩
        · rw [decide_eq_false hin]
          refine iteF ?_
          refine ⟨_, rfl, .inl ⟨rfl, _, SqL.of hln⟩, _, rfl, l, _, _, rfl, rfl, hln, by rw [List.length_map, lF]; exact Nat.lt_of_le_of_lt (show it ≤ 8 by omega) (by decide), ?_⟩
          refine ⟨F ++ [z], _, _, rfl, sn.mut st nl (fun d y hd => wi.ne hd nl), by rw [upd_same, List.map_append]; rfl, by rw [List.length_append, lF]; rfl, ?_, fun x hx => ?_⟩
          · rw [List.nodup_append]
            exact ⟨ndF, by simp, fun x hx y hy exy => hin (by rw [← List.mem_singleton.mp hy, ← exy]; exact hx)⟩
          · rcases List.mem_append.mp hx with hx | hx
            · obtain ⟨h1, c', h2, h3⟩ := hF x hx
              exact ⟨h1, c', h2, h3.imp id fun ⟨j, h4, h5⟩ => ⟨j, by omega, h5⟩⟩
            · rw [List.mem_singleton.mp hx]
              exact ⟨hz, hh.choose, hh.choose_spec.1, .inl hh.choose_spec.2⟩
    · rintro σ H2 ⟨F, v3, v4, rfl, s2, hl, lF, ndF, hF⟩
      rw [List.length_range] at lF
      refine ⟨_, rfl, l, F, rfl, SqL.of hl, by omega, fun ys p hp hs np => ?_⟩
      rw [sorted_is hp hs]
      refine q _ p (srt F) (s2.kp (Kp.upd s2.w np)) (s2.fr p np) upd_same (srt_ss ndF) (by rw [srt_len]; exact lF) fun x hx => (hF x (mem_srt.mp hx)).1
end
end Bw
set_option Elab.async false
set_option linter.all false
set_option pp.maxSteps 300
set_option maxRecDepth 100000
set_option maxHeartbeats 4000000
/-! the law's own helpers: arcs, what is reached -/
namespace Bw
open PySem PySem.Spec PyProof.Rows L2 Bt Bs Bm
def AE : List Str := ("abcde" : Str).cps.toList.map fun c => ⟨#[c]⟩
theorem ae_ss : SS AE := by show List.Pairwise slt AE; decide +kernel
theorem ae_len : AE.length = 5 := by decide +kernel
theorem ae_nm : ∀ x, x ∈ AE → IsName x := fun x hx => by
  obtain ⟨c, hc, rfl⟩ := List.mem_map.mp hx
  exact name_one ((by decide +kernel : ∀ c, c ∈ ("abcde" : Str).cps.toList → c ∈ cLT) c hc)
theorem pickS {l : List Str} {d : Int} (h0 : 0 ≤ d) (h1 : d < l.length) : ∃ u, u ∈ l ∧ l[d.toNat]? = some u ∧ atI (l.map V.str) d = some (.str u) := by
  obtain ⟨n, rfl⟩ : ∃ n : Nat, d = (n : Int) := ⟨d.toNat, by omega⟩
  have hn : n < l.length := by omega
  refine ⟨l[n], List.getElem_mem hn, by rw [Int.toNat_natCast, List.getElem?_eq_getElem hn], ?_⟩
  rw [atI_nat (by rw [List.length_map]; exact hn), List.getElem?_map, List.getElem?_eq_getElem hn]; rfl
/-- what the law draws: places in order, arcs between two unlike ones -/
structure ArcOk (pl nm : List Str) (en : Str → Str × Str) : Prop where
  ps : SS pl
  p2 : 2 ≤ pl.length
  p5 : pl.length ≤ 5
  pn : ∀ x, x ∈ pl → IsName x
  ss : SS nm
  l1 : 1 ≤ nm.length
  l8 : nm.length ≤ 8
  nn : ∀ x, x ∈ nm → IsName x
  ei : ∀ t, t ∈ nm → (en t).1 ∈ pl ∧ (en t).2 ∈ pl ∧ (en t).1 ≠ (en t).2
section
variable {P : Program} {w : World} {K : PySem.W.Frag} {mg : Str → Option Value} {base : Heap}
def spArcs : Sp := fun vs H Q _ => ∃ (R : Reg) (a sc : Addr) (ns : List Int), vs = [.ref a, .int 8] ∧ WInv R H ∧ StS H a sc ns ∧
  ∀ H' t pa d pl nm en, SK R a sc ns H H' → H t = none → H pa = none → H d = none → H' t = some (.tup [.ref pa, .ref d]) → H' pa = some (.lst (pl.map V.str)) → ArcS H' d nm en → ArcOk pl nm en → Q (.ref t) H'
abbrev N_law_arcs : List Str := ["_law_state_here", "_law_most", "_law_places", "_law_arcs_here", "_law_name", "_law_at", "_law_more"]
theorem sc_law_arcs : FnScope N_law_arcs ["_law_state_here", "_law_most"] (defScope s_law_arcs) := ⟨rfl, rfl, rfl, by decide +kernel, rfl, by decide +kernel, by decide +kernel⟩
theorem c_law_arcs (T : Txt K mg) : Call P w K mg base 3 "_law_arcs" ["_law_state_here", "_law_most"] spArcs := by
  refine mkCall T.d_law_arcs sc_law_arcs (fun _ _ _ _ _ _ us hl => match us, hl with | [_, _], _ => rfl) (fun vs H Q E h => ?_) (fun cdv A outer s H vs Q E hr h => ?_)
  · obtain ⟨R, a, sc, ns, rfl, _⟩ := h; rfl
  · obtain ⟨R, a, sc, ns, rfl, wi, st, q⟩ := h
    have hu := hu_of hr
    refine ⟨_, (pss_cons (ps_set (i := 2) sc_law_arcs.nd rfl (Or.inl rfl) (pe_slice sl_list (pe_callTy (call_list_str1 rfl) (by rfl) T.f_list bt_list (pa_cons pe_str pa_nil)) po_none (po_some (pe_op op_add pe_int (pe_f (c_law_draw T) hr (pa_cons (pv 0) (pa_cons pe_int pa_nil)))))))
      (pss_cons (ps_set (i := 3) sc_law_arcs.nd rfl (Or.inl rfl) pe_dnewK)
      (pss_cons (ps_for PassesOwn.never rfl (pi_list (pe_f (c_law_names T) hr (pa_cons (pv 0) (pa_cons (pe_op op_add pe_int (pe_f (c_law_draw T) hr (pa_cons (pv 0) (pa_cons (pv 1) pa_nil)))) pa_nil)))) (pg_name (i := 4) sc_law_arcs.nd rfl (by first | exact Or.inl rfl | exact Or.inr rfl)) (pss_cons (ps_set (i := 5) sc_law_arcs.nd rfl (Or.inl rfl) (pe_f (c_law_draw T) hr (pa_cons (pv 0) (pa_cons (pe_callB call_len_seq (by rfl) T.f_len bt_len (pa_cons (pv 2) pa_nil)) pa_nil))))
      (pss_cons (ps_set (i := 6) sc_law_arcs.nd rfl (Or.inl rfl) (pe_f (c_law_draw T) hr (pa_cons (pv 0) (pa_cons (pe_op op_sub (pe_callB call_len_seq (by rfl) T.f_len bt_len (pa_cons (pv 2) pa_nil)) pe_int) pa_nil))))
      (pss_one (ps_dput hu (pv 3) (pv 4) (pe_tup (pa_cons (pe_ix ix_list (pv 2) (pv 5) (fun _ _ => rfl)) (pa_cons (pe_ix ix_list (pv 2) (pe_op op_add (pv 6) (pe_callTy call_int1 (by rfl) T.f_int bt_int (pa_cons (pe_cmpR op_ge (pv 6) (pv 5) (nomark _)) pa_nil))) (fun _ _ => rfl)) pa_nil))) rfl)))))
      (pss_one (ps_ret (pe_tup (pa_cons (pv 2) (pa_cons (pv 3) pa_nil)))))))), ?_⟩
    refine ⟨_, rfl, by show 5 ≤ 1000; decide, fun l0 nl0 => ?_⟩
    have eAE : (("abcde" : Str).cps.toList.map fun c => V.str ⟨#[c]⟩) = AE.map V.str := by unfold AE; rw [List.map_map]; rfl
    rw [eAE]
    have s1 := (SK.refl wi st).kp (Kp.upd wi nl0 (o := .lst (AE.map V.str)))
    refine ⟨_, rfl, a, sc, ns, 4, rfl, by decide, by decide, s1.st, fun H2 d dr2 st2 d0 d4 => ?_⟩
    have s2 := s1.dr dr2 st2
    have hl0 := dr2.at (upd_same : (upd H l0 (.lst (AE.map V.str))) l0 = _) (st.ne nl0)
    obtain ⟨n, rfl⟩ : ∃ n : Nat, d = (n : Int) := ⟨d.toNat, by omega⟩
    refine ⟨_, _, rfl, rfl, _, rfl, l0, _, rfl, SqL.of hl0, fun pa npa => ?_⟩
    have ecut : cutV (AE.map V.str) none (some (2 + (n : Int))) = (AE.take (2 + n)).map V.str := by
      have e2 : (2 : Int) + (n : Int) = ((2 + n : Nat) : Int) := by omega
      rw [e2, cutV_take _ _ (by rw [List.length_map, ae_len]; omega), List.map_take]
    rw [ecut]
    have plss : SS (AE.take (2 + n)) := List.Pairwise.sublist (List.take_sublist _ _) ae_ss
    have pll : (AE.take (2 + n)).length = 2 + n := by rw [List.length_take, ae_len]; omega
    have pln : ∀ x, x ∈ AE.take (2 + n) → IsName x := fun x hx => ae_nm x (List.mem_of_mem_take hx)
    generalize AE.take (2 + n) = pl at plss pll pln
    have npaH := s2.fr pa npa
    have s3 := s2.kp (Kp.upd s2.w npa (o := .lst (pl.map V.str)))
    have npaa := st.ne npaH
    -- arcs = {}
    refine fun D nD => ?_
    have nDH := s3.fr D nD
    have nDa := st.ne nDH
    have s4 := s3.kp (Kp.upd s3.w nD (o := .dK []))
    have hpa4 := (Kp.upd s3.w nD (o := .dK [])).at (upd_same : (upd H2 pa (.lst (pl.map V.str))) pa = _)
    have nDp : D ≠ pa := (ne_of_none (upd_same : (upd H2 pa (.lst (pl.map V.str))) pa = _) nD).symm
    -- names
    refine ⟨_, rfl, _, rfl, _, rfl, a, sc, ns, 8, rfl, by decide, by decide, s4.st, fun H5 d5 dr5 st5 e50 e51 => ?_⟩
    have s5 := s4.dr dr5 st5
    obtain ⟨m, rfl⟩ : ∃ m : Nat, d5 = (m : Int) := ⟨d5.toNat, by omega⟩
    have hpa5 := dr5.at hpa4 npaa
    have hD5 := dr5.at (upd_same : (upd (upd H2 pa (.lst (pl.map V.str))) D (.dK [])) D = _) nDa
    refine ⟨_, _, rfl, rfl, ?_⟩
    refine ⟨R, a, sc, ns, 1 + m, by show [V.ref a, V.int (1 + (m : Int))] = [V.ref a, V.int ((1 + m : Nat) : Int)]; rw [show (1 : Int) + (m : Int) = ((1 + m : Nat) : Int) by omega], s5.w, s5.st, by omega, fun H6 l nm s6 nl hl nss nml nmn => ?_⟩
    have sB := s5.trans s6
    have hpa6 := s6.at hpa5 npaa
    have hD6 := s6.at hD5 nDa
    have nla : l ≠ a := s5.st.ne nl
    have nlD : l ≠ D := (ne_of_none hD5 nl).symm
    refine ⟨l, rfl, ⟨_, SqL.of hl⟩, ?_⟩
    refine forG (G := fun H7 => H7 l = some (.lst (nm.map V.str))) (src_lstG (c := V.str) (its := nm) fun _ g => g)
      (fun i σ H7 => ∃ (g : Str → V) (en : Str → Str × Str) (v4 v5 v6 : Option V), σ = [some (.ref a), some (.int 8), some (.ref pa), some (.ref D), v4, v5, v6] ∧ SK R a sc ns H H7 ∧ H7 l = some (.lst (nm.map V.str)) ∧ H7 pa = some (.lst (pl.map V.str)) ∧ H7 D = some (.dK (DFn (nm.take i) g)) ∧
        ∀ t, t ∈ nm.take i → ∃ e, g t = .ref e ∧ e ≠ a ∧ H7 e = some (.tup [.str (en t).1, .str (en t).2]) ∧ (en t).1 ∈ pl ∧ (en t).2 ∈ pl ∧ (en t).1 ≠ (en t).2)
      (fun i σ H7 ⟨_, _, _, _, _, _, _, h, _⟩ => h) ⟨fun _ => .non, fun _ => ("", ""), none, none, none, rfl, sB, hl, hpa6, hD6, fun t ht => by cases ht⟩ ?_ ?_
    · rintro i x σ H7 hx ⟨g, en, v4, v5, v6, rfl, s7, hl7, hpa7, hD7, hg⟩
      have lpl : (pl.map V.str).length = 2 + n := by rw [List.length_map]; exact pll
      refine ⟨_, rfl, _, rfl, pa, _, rfl, .inl (SqL.of hpa7), a, sc, ns, _, rfl, by rw [lpl]; omega, by rw [lpl]; omega, s7.st, fun H8 d8 dr8 st8 e80 e81 => ?_⟩
      rw [lpl] at e81
      have s8 := s7.dr dr8 st8
      have hpa8 := dr8.at hpa7 npaa
      refine ⟨_, rfl, _, rfl, pa, _, rfl, .inl (SqL.of hpa8), _, _, rfl, rfl, a, sc, ns, _, rfl, by rw [lpl]; omega, by rw [lpl]; omega, s8.st, fun H9 d9 dr9 st9 e90 e91 => ?_⟩
      rw [lpl] at e91
      have s9 := s8.dr dr9 st9
      have hpa9 := dr9.at hpa8 npaa
      have hD9 := dr9.at (dr8.at hD7 nDa) nDa
      have hl9 := dr9.at (dr8.at hl7 nla) nla
      obtain ⟨u, hu1, hu2, hu3⟩ := pickS (l := pl) e80 (by rw [pll]; omega)
      let j : Int := d9 + (if decide (d8 ≤ d9) = true then 1 else 0)
      have hj : 0 ≤ j ∧ j < ((2 + n : Nat) : Int) ∧ j ≠ d8 := by
        show 0 ≤ d9 + (if decide (d8 ≤ d9) = true then 1 else 0) ∧ d9 + (if decide (d8 ≤ d9) = true then 1 else 0) < ((2 + n : Nat) : Int) ∧ d9 + (if decide (d8 ≤ d9) = true then 1 else 0) ≠ d8
        by_cases h : d8 ≤ d9
        · rw [decide_eq_true h, if_pos rfl]; omega
        · rw [decide_eq_false h, if_neg Bool.false_ne_true]; omega
      obtain ⟨v, hv1, hv2, hv3⟩ := pickS (l := pl) hj.1 (by rw [pll]; exact hj.2.1)
      have huv : u ≠ v := fun q => by
        subst q
        have hji : d8.toNat ≠ j.toNat := by omega
        rcases Nat.lt_or_gt_of_ne hji with h | h
        · exact pw_get plss.nodup hu2 hv2 h rfl
        · exact pw_get plss.nodup hv2 hu2 h rfl
      refine ⟨_, rfl, _, rfl, pa, _, d8, .str u, rfl, rfl, SqL.of hpa9, hu3, ?_⟩
      refine ⟨_, rfl, _, rfl, _, rfl, _, rfl, _, _, rfl, rfl, .inr ⟨_, rfl, _, _, rfl, rfl, pa, _, j, .str v, rfl, rfl, SqL.of hpa9, hv3, by show 2 ≤ sizeLine; decide, fun z nz => ?_⟩⟩
      have kz := Kp.upd s9.w nz (o := .tup [.str u, .str v])
      have lti : (nm.take i).length ≤ 8 := by rw [List.length_take]; omega
      have nza := s9.st.ne nz
      have nzD : z ≠ D := (ne_of_none hD9 nz).symm
      refine ⟨_, rfl, _, rfl, D, _, rfl, DPut.k (k := Sum.inr x) (kz.at hD9) (by rw [dfn_len]; exact Nat.lt_of_le_of_lt lti (by decide)), ?_⟩
      have hxt : x ∉ nm.take i := take_not nss.nodup hx
      have nlD' : l ≠ D := nlD
      refine ⟨fun y => if y = x then .ref z else g y, fun y => if y = x then (u, v) else en y, _, _, _, rfl, (s9.kp kz).mut st nDH (fun d y hd => wi.ne hd nDH), by rw [upd_ne nlD]; exact kz.at hl9, by rw [upd_ne nDp.symm]; exact kz.at hpa9, ?_, fun t ht => ?_⟩
      · rw [upd_same, dfn_ins, take_succ_at hx]
        unfold kins
        rw [if_neg hxt]
      · show ∃ e, (if t = x then V.ref z else g t) = .ref e ∧ e ≠ a ∧ _ = some (HO.tup [.str (if t = x then (u, v) else en t).1, .str (if t = x then (u, v) else en t).2]) ∧ (if t = x then (u, v) else en t).1 ∈ pl ∧ (if t = x then (u, v) else en t).2 ∈ pl ∧ (if t = x then (u, v) else en t).1 ≠ (if t = x then (u, v) else en t).2
        by_cases h : t = x
        · rw [if_pos h, if_pos h]
          exact ⟨z, rfl, nza, by rw [upd_ne nzD, upd_same], hu1, hv1, huv⟩
        · rw [if_neg h, if_neg h]
          rw [take_succ_at hx] at ht
          have ht' : t ∈ nm.take i := by
            rcases List.mem_append.mp ht with q | q
            · exact q
            · exact absurd (List.mem_singleton.mp q) h
          obtain ⟨e, f1, f2, f3, f4⟩ := hg t ht'
          have h9 := dr9.at (dr8.at f3 f2) f2
          exact ⟨e, f1, f2, by rw [upd_ne (fun q => by rw [q, hD9] at h9; cases h9)]; exact kz.at h9, f4⟩
    · rintro σ H7 ⟨g, en, v4, v5, v6, rfl, s7, hl7, hpa7, hD7, hg⟩
      rw [List.take_length] at hD7 hg
      refine ⟨_, rfl, _, rfl, by show 2 ≤ sizeLine; decide, fun t nt => ?_⟩
      have kt := Kp.upd s7.w nt (o := .tup [.ref pa, .ref D])
      refine q _ t pa D pl nm en (s7.kp kt) (s7.fr t nt) npaH nDH upd_same (kt.at hpa7) ⟨_, kt.at hD7, dfn_keys _ _, fun x hx => ?_⟩ ⟨plss, by rw [pll]; omega, by rw [pll]; omega, pln, nss, by rw [nml]; omega, by rw [nml]; omega, nmn, fun x hx => ?_⟩
      · obtain ⟨e, f1, f2, f3, f4⟩ := hg x hx
        exact ⟨e, by rw [dfn_get hx, f1], kt.at f3⟩
      · obtain ⟨e, f1, f2, f3, f4⟩ := hg x hx
        exact f4
end
end Bw
set_option Elab.async false
set_option linter.all false
set_option pp.maxSteps 300
set_option maxRecDepth 100000
set_option maxHeartbeats 4000000
/-! the law's own helpers: what is reached, heads, trees -/
namespace Bm
open PySem PySem.Spec PyProof.Rows Bs L2
/-- a place is come to from the root -/
inductive Rch (en : Str → Str × Str) (nm : List Str) (root : Str) : Str → Prop
  | base : Rch en nm root root
  | step {t : Str} : t ∈ nm → Rch en nm root (en t).1 → Rch en nm root (en t).2
/-- the arcs into a place -/
def into (en : Str → Str × Str) (nm : List Str) (p : Str) : List Str := nm.filter fun t => decide ((en t).2 = p)
def pstep (en : Str → Str × Str) (nm : List Str) (root : Str) (found : List (List Str)) (p : Str) : List (List Str) := if p = root then found else found.flatMap fun L => (into en nm p).map fun t => L ++ [t]
/-- lots with one arc into each place but the root -/
def prodL (en : Str → Str × Str) (nm : List Str) (root : Str) (pl : List Str) : List (List Str) := pl.foldl (pstep en nm root) [[]]
section
variable {en : Str → Str × Str} {nm : List Str} {root : Str}
theorem mem_into {p t : Str} : t ∈ into en nm p ↔ t ∈ nm ∧ (en t).2 = p := by
  unfold into
  rw [List.mem_filter, decide_eq_true_iff]
theorem mem_prod : ∀ (ps : List Str) (found : List (List Str)) (L : List Str), L ∈ ps.foldl (pstep en nm root) found ↔ ∃ L0, L0 ∈ found ∧ ∃ M : List Str, L = L0 ++ M ∧ M.map (fun t => (en t).2) = ps.filter (fun p => decide (p ≠ root)) ∧ ∀ t, t ∈ M → t ∈ nm
  | [], found, L => by
    constructor
    · intro h
      exact ⟨L, h, [], by simp, rfl, fun t ht => by cases ht⟩
    · rintro ⟨L0, h, M, rfl, h2, h3⟩
      have : M = [] := by cases M with
        | nil => rfl
        | cons a M => cases h2
      rw [this, List.append_nil]; exact h
  | p :: ps, found, L => by
    rw [List.foldl_cons, mem_prod ps]
    unfold pstep
    by_cases hp : p = root
    · rw [if_pos hp, List.filter_cons, if_neg (by simp [hp])]
    · rw [if_neg hp, List.filter_cons, if_pos (by simp [hp])]
      constructor
      · rintro ⟨L1, h1, M, rfl, h2, h3⟩
        obtain ⟨L0, h0, h4⟩ := List.mem_flatMap.mp h1
        obtain ⟨t, ht, rfl⟩ := List.mem_map.mp h4
        obtain ⟨t1, t2⟩ := mem_into.mp ht
        refine ⟨L0, h0, t :: M, by rw [List.append_assoc]; rfl, by rw [List.map_cons, h2, t2], fun x hx => ?_⟩
        rcases List.mem_cons.mp hx with e | e
        · exact e ▸ t1
        · exact h3 x e
      · rintro ⟨L0, h0, M, rfl, h2, h3⟩
        cases M with
        | nil => cases h2
        | cons t M =>
          rw [List.map_cons] at h2
          obtain ⟨e1, e2⟩ := List.cons.inj h2
          exact ⟨L0 ++ [t], List.mem_flatMap.mpr ⟨L0, h0, List.mem_map.mpr ⟨t, mem_into.mpr ⟨h3 t List.mem_cons_self, e1⟩, rfl⟩⟩, M, by rw [List.append_assoc]; rfl, e2, fun x hx => h3 x (List.mem_cons_of_mem _ hx)⟩
theorem mem_prodL {pl L : List Str} : L ∈ prodL en nm root pl ↔ L.map (fun t => (en t).2) = pl.filter (fun p => decide (p ≠ root)) ∧ ∀ t, t ∈ L → t ∈ nm := by
  unfold prodL
  rw [mem_prod]
  constructor
  · rintro ⟨L0, h0, M, rfl, h⟩
    rw [List.mem_singleton.mp h0, List.nil_append]
    exact h
  · intro h
    exact ⟨[], List.mem_singleton.mpr rfl, L, rfl, h⟩
theorem prod_nd {pl L : List Str} (np : pl.Nodup) (h : L ∈ prodL en nm root pl) : L.Nodup := by
  have h1 := (mem_prodL.mp h).1
  have h2 : (L.map fun t => (en t).2).Nodup := by rw [h1]; exact np.filter _
  exact List.Pairwise.imp (fun n e => n (by rw [e])) (List.pairwise_map.mp h2)
theorem into_len (p : Str) : (into en nm p).length ≤ nm.length := List.length_filter_le _ _
theorem pstep_len {found : List (List Str)} {p : Str} (l8 : nm.length ≤ 8) : (pstep en nm root found p).length ≤ found.length * 8 := by
  unfold pstep
  by_cases hp : p = root
  · rw [if_pos hp]; omega
  · rw [if_neg hp]
    induction found with
    | nil => exact Nat.zero_le _
    | cons L found ih =>
      have := into_len (en := en) (nm := nm) p
      rw [List.flatMap_cons, List.length_append, List.length_map, List.length_cons]
      omega
end
theorem merge_dfn {l : List Str} (nd : l.Nodup) (g : Str → V) : mergeK [] (DFn l g) = DFn l g := by
  have h : ∀ (l pre : List Str), (pre ++ l).Nodup → (DFn l g).foldl (fun acc kv => putK acc kv.1 kv.2) (DFn pre g) = DFn (pre ++ l) g := by
    intro l
    induction l with
    | nil => intro pre _; rw [List.append_nil]; rfl
    | cons x l ih =>
      intro pre hn
      have hx : x ∉ pre := fun hq => by
        rw [List.nodup_append] at hn
        exact hn.2.2 x hq x List.mem_cons_self rfl
      show (DFn l g).foldl _ (putK (DFn pre g) (Sum.inr x) (g x)) = _
      rw [putK_new _ (dfn_no hx)]
      have e : (DFn pre g ++ [((Sum.inr x : Key), g x)]) = DFn (pre ++ [x]) g := (show DFn (pre ++ [x]) g = DFn pre g ++ DFn [x] g from List.map_append).symm
      rw [e, ih (pre ++ [x]) (by rw [List.append_assoc]; exact hn), List.append_assoc]
      rfl
  exact h l [] nd
end Bm
namespace Bw
open PySem PySem.Spec PyProof.Rows L2 Bt Bs Bm
section
variable {P : Program} {w : World} {K : PySem.W.Frag} {mg : Str → Option Value} {base : Heap}
/-- a dict locked in both heaps -/
theorem Kp.lock2 {R : Reg} {H H1 : Hp} {d : Addr} {kvs : List (Key × V)} {od : Obj} (k : Kp R H H1) (h : H d = some (.dK kvs)) : Kp R (L2.upd H d (.frz od (.dK kvs))) (L2.upd H1 d (.frz od (.dK kvs))) := by
  refine ⟨Kp.lock k.w0 h, Kp.lock k.w (k.at h), fun b o e n => ?_, fun b e => ?_⟩
  · by_cases q : b = d
    · subst q; rw [upd_same] at e ⊢; exact e
    · rw [upd_ne q] at e ⊢; exact k.ex.old b o e n
  · by_cases q : b = d
    · subst q; rw [upd_same] at e; cases e
    · rw [upd_ne q] at e ⊢; exact k.ex.dom b e
theorem dgetF {H : Hp} {d : Addr} {o : Obj} {kvs : List (Key × V)} {x : Str} {v : V} (h : H d = some (.frz o (.dK kvs))) (e : valV kvs (Sum.inr x) = some v) : DGet H d (.str x) (some v) := .inl ⟨kvs, Sum.inr x, .inr ⟨o, h⟩, rfl, e.symm⟩
theorem dgetK {H : Hp} {d : Addr} {kvs : List (Key × V)} {x : Str} {v : V} (h : H d = some (.dK kvs)) (e : valV kvs (Sum.inr x) = some v) : DGet H d (.str x) (some v) := .inl ⟨kvs, Sum.inr x, .inl h, rfl, e.symm⟩
theorem key_in {kvs : List (Key × V)} {nm : List Str} (h : kvs.map (·.1) = nm.map Sum.inr) {kv : Key × V} (hk : kv ∈ kvs) : ∃ t, t ∈ nm ∧ kv.1 = Sum.inr t := by
  have : kv.1 ∈ nm.map (Sum.inr : Str → Key) := by rw [← h]; exact List.mem_map.mpr ⟨kv, hk, rfl⟩
  obtain ⟨t, a, b⟩ := List.mem_map.mp this
  exact ⟨t, a, b.symm⟩
def spReached : Sp := fun vs H Q _ => ∃ (R : Reg) (d s : Addr) (nm : List Str) (en : Str → Str × Str) (root : Str), vs = [.ref d, .ref s] ∧ WInv R H ∧ ArcS H d nm en ∧ H s = some (.lst [.str root]) ∧ nm.length ≤ 8 ∧
  ∀ H' l (F : List Str), Kp R H H' → H l = none → H' l = some (.lst (F.map V.str)) → F.Nodup → (∀ x, x ∈ F ↔ Rch en nm root x) → Q (.ref l) H'
abbrev N_law_reached : List Str := ["_law_arcs_here", "_law_starts", "_law_found", "_law_changed", "_law_name"]
theorem sc_law_reached : FnScope N_law_reached ["_law_arcs_here", "_law_starts"] (defScope s_law_reached) := ⟨rfl, rfl, rfl, by decide +kernel, rfl, by decide +kernel, by decide +kernel⟩
theorem c_law_reached (T : Txt K mg) : Call P w K mg base 1 "_law_reached" ["_law_arcs_here", "_law_starts"] spReached := by
  refine mkCall T.d_law_reached sc_law_reached (fun _ _ _ _ _ _ us hl => match us, hl with | [_, _], _ => rfl) (fun vs H Q E h => ?_) (fun cdv A outer s H vs Q E hr h => ?_)
  · obtain ⟨R, d, s, nm, en, root, rfl, _⟩ := h; rfl
  · obtain ⟨R, d, s, nm, en, root, rfl, wi, hArc, hs, l8, q⟩ := h
    have hu := hu_of hr
    obtain ⟨kvs, hd, hks, hv⟩ := hArc.ob
    refine ⟨_, (pss_cons (ps_set (i := 2) sc_law_reached.nd rfl (Or.inl rfl) (pe_callTy call_list_of (by rfl) T.f_list bt_list (pa_cons (pv 1) pa_nil)))
      (pss_cons (ps_set (i := 3) sc_law_reached.nd rfl (Or.inl rfl) pe_bl)
      (pss_cons (ps_while PassesOwn.never (pt_val (pv 3)) (pss_cons (ps_set (i := 3) sc_law_reached.nd rfl (Or.inl rfl) pe_bl)
      (pss_one (ps_lock (ps_for PassesOwn.never rfl (pi_keys (pv 0)) (pg_name (i := 4) sc_law_reached.nd rfl (by first | exact Or.inl rfl | exact Or.inr rfl)) (pss_one (ps_if (PW.pt (pw_and (pt_cmpR op_in_seq (pe_ix ix_tup (pe_dget hu (pv 0) (pv 4) (fun _ _ => rfl)) pe_int (fun _ _ => rfl)) (pv 2) (by rfl)) (pw_and1 (pt_cmpR op_notIn_seq (pe_ix ix_tup (pe_dget hu (pv 0) (pv 4) (fun _ _ => rfl)) pe_int (fun _ _ => rfl)) (pv 2) (by rfl))))) (pss_cons (ps_expr (pe_bm PySem.F.plainAttrs_list PySem.F.slot_list_append PySem.F.type_list_append mt_append (pv 2) (pa_cons (pe_ix ix_tup (pe_dget hu (pv 0) (pv 4) (fun _ _ => rfl)) pe_int (fun _ _ => rfl)) pa_nil)))
      (pss_one (ps_set (i := 3) sc_law_reached.nd rfl (Or.inl rfl) pe_bl))) pss_nil)))))))
      (pss_one (ps_ret (pv 2)))))), ?_⟩
    refine ⟨_, rfl, s, _, rfl, .inl (SqL.of hs), fun l nl => ?_⟩
    have k1 := Kp.upd wi nl (o := .lst [V.str root])
    have nld : l ≠ d := (ne_of_none hd nl).symm
    have bound : ∀ F : List Str, F.Nodup → (∀ x, x ∈ F → Rch en nm root x) → F.length ≤ 9 := fun F nd hF => by
      have : F.length ≤ (root :: nm.map fun t => (en t).2).length := Bf.nodup_le nd fun x hx => by
        cases hF x hx with
        | base => exact List.mem_cons_self
        | step ht _ => exact List.mem_cons_of_mem _ (List.mem_map.mpr ⟨_, ht, rfl⟩)
      rw [List.length_cons, List.length_map] at this
      omega
    refine ⟨fun m σ H1 => ∃ (F : List Str) (c : Bool) (v4 : Option V), m = 2 * (10 - F.length) + (if c = true then 1 else 0) ∧ σ = [some (.ref d), some (.ref s), some (.ref l), some (.bl c), v4] ∧ Kp R H H1 ∧ H1 l = some (.lst (F.map V.str)) ∧ F.Nodup ∧ (∀ x, x ∈ F → Rch en nm root x) ∧ root ∈ F ∧
      (c = false → ∀ t, t ∈ nm → (en t).1 ∈ F → (en t).2 ∈ F), ⟨_, [root], true, none, rfl, rfl, k1, upd_same, by simp, fun x hx => by (rw [List.mem_singleton.mp hx]; exact .base), List.mem_singleton.mpr rfl, (fun z => by cases z)⟩, ?_⟩
    rintro m σ H1 ⟨F0, c, v4, rfl, rfl, k, hl, nd, hR, hroot, hc⟩
    refine ⟨_, rfl, c, rfl, ?_⟩
    cases c with
    | false =>
      refine iteF ⟨_, rfl, q H1 l F0 k nl hl nd fun x => ⟨hR x, fun h => ?_⟩⟩
      induction h with
      | base => exact hroot
      | step ht _ ih => exact hc rfl _ ht ih
    | true =>
      refine iteT ⟨fun σ H1 => ∃ (F : List Str) (c : Bool) (v4 : Option V), 2 * (10 - F.length) + (if c = true then 1 else 0) < 2 * (10 - F0.length) + (if true = true then 1 else 0) ∧ σ = [some (.ref d), some (.ref s), some (.ref l), some (.bl c), v4] ∧ Kp R H H1 ∧ H1 l = some (.lst (F.map V.str)) ∧ F.Nodup ∧ (∀ x, x ∈ F → Rch en nm root x) ∧ root ∈ F ∧
        (c = false → ∀ t, t ∈ nm → (en t).1 ∈ F → (en t).2 ∈ F), ?_, ?_⟩
      · rintro σ' H2 ⟨F, c, v4, hlt, rfl, h⟩
        exact ⟨_, hlt, F, c, v4, rfl, rfl, h⟩
      refine ⟨d, _, k.at hd, trivial, fun od => ?_⟩
      have kL := k.lock2 (od := od) hd
      have nlL : (upd H d (.frz od (.dK kvs))) l = none := by rw [upd_ne nld]; exact nl
      have hlL : (upd H1 d (.frz od (.dK kvs))) l = some (.lst (F0.map V.str)) := by rw [upd_ne nld]; exact hl
      refine ⟨_, rfl, d, od, rfl, .inl ⟨kvs, upd_same, ?_⟩⟩
      refine forG (G := fun H2 => H2 d = some (.frz od (.dK kvs))) (src_keysG fun _ g => g)
        (fun i σ H2 => ∃ (F : List Str) (c : Bool) (v4 : Option V), σ = [some (.ref d), some (.ref s), some (.ref l), some (.bl c), v4] ∧ Kp R (upd H d (.frz od (.dK kvs))) H2 ∧ H2 l = some (.lst (F.map V.str)) ∧ F.Nodup ∧ (∀ x, x ∈ F → Rch en nm root x) ∧ root ∈ F ∧ F0.length ≤ F.length ∧ (c = true → F0.length < F.length) ∧
          (c = false → ∀ t, (Sum.inr t : Key) ∈ (kvs.take i).map (·.1) → (en t).1 ∈ F → (en t).2 ∈ F))
        (fun i σ H2 ⟨_, _, _, _, k, _⟩ => k.at upd_same) ⟨F0, false, v4, rfl, kL, hlL, nd, hR, hroot, Nat.le_refl _, (fun z => by cases z), fun _ t ht => by cases ht⟩ ?_ ?_
      · rintro i kv σ H2 hi ⟨F, c, v4, rfl, k2, hl2, nd2, hR2, hroot2, hle, hct, hcf⟩
        obtain ⟨t, ht, ekv⟩ := key_in hks (List.mem_of_getElem? hi)
        obtain ⟨e, he1, he2⟩ := hv t ht
        have heL : (upd H d (.frz od (.dK kvs))) e = some (.tup [.str (en t).1, .str (en t).2]) := by rw [upd_ne (fun z => by rw [z, hd] at he2; cases he2)]; exact he2
        have eV : kV kv.1 = .str t := by rw [ekv]; rfl
        rw [eV]
        have gD := dgetF (k2.at upd_same) he1
        have hEx := k2.at heL
        refine ⟨_, rfl, _, rfl, d, _, rfl, gD, e, _, 0, _, rfl, rfl, SqT.of hEx, rfl, _, rfl, l, F.map V.str, rfl, .inl (SqL.of hl2), rfl, flat_strs _, _, rfl, ?_⟩
        rw [if_neg Bool.false_ne_true, inV_str]
        have hnew : ∀ t', (Sum.inr t' : Key) ∈ (kvs.take (i + 1)).map (·.1) → (Sum.inr t' : Key) ∈ (kvs.take i).map (·.1) ∨ t' = t := fun t' h => by
          rw [take_succ_at hi, List.map_append] at h
          rcases List.mem_append.mp h with z | z
          · exact .inl z
          · right
            have := (List.mem_singleton.mp z).trans ekv
            exact Sum.inr.inj this
        by_cases h1 : (en t).1 ∈ F
        · rw [decide_eq_true h1]
          refine iteT ⟨_, rfl, _, rfl, d, _, rfl, gD, e, _, 1, _, rfl, rfl, SqT.of hEx, rfl, _, rfl, l, F.map V.str, rfl, .inl (SqL.of hl2), rfl, flat_strs _, _, rfl, ?_⟩
          rw [if_pos rfl, inV_str]
          by_cases h2 : (en t).2 ∈ F
          · rw [decide_eq_true h2]
            refine iteF ⟨F, c, _, rfl, k2, hl2, nd2, hR2, hroot2, hle, hct, fun z t' ht' => ?_⟩
            rcases hnew t' ht' with y | y
            · exact hcf z t' y
            · exact fun _ => y ▸ h2
          · rw [decide_eq_false h2]
            have b9 := bound F nd2 hR2
            refine iteT ⟨_, rfl, .inl ⟨rfl, _, SqL.of hl2⟩, _, rfl, _, rfl, d, _, rfl, gD, e, _, 1, _, rfl, rfl, SqT.of hEx, rfl, l, _, _, rfl, rfl, hl2, by rw [List.length_map]; exact Nat.lt_of_le_of_lt b9 (by decide), ?_⟩
            refine ⟨F ++ [(en t).2], true, _, rfl, k2.mut nlL, by rw [upd_same, List.map_append]; rfl, ?_, fun x hx => ?_, List.mem_append.mpr (.inl hroot2), by rw [List.length_append]; omega, fun _ => by rw [List.length_append]; simp only [List.length_singleton]; omega, fun z => by cases z⟩
            · rw [List.nodup_append]
              exact ⟨nd2, by simp, fun x hx y hy exy => h2 (by rw [← List.mem_singleton.mp hy, ← exy]; exact hx)⟩
            · rcases List.mem_append.mp hx with z | z
              · exact hR2 x z
              · rw [List.mem_singleton.mp z]; exact .step ht (hR2 _ h1)
        · rw [decide_eq_false h1]
          refine iteF (iteF ⟨F, c, _, rfl, k2, hl2, nd2, hR2, hroot2, hle, hct, fun z t' ht' => ?_⟩)
          rcases hnew t' ht' with y | y
          · exact hcf z t' y
          · exact fun h => absurd (y ▸ h) h1
      · rintro σ H2 ⟨F, c, v4, rfl, k2, hl2, nd2, hR2, hroot2, hle, hct, hcf⟩
        rw [List.take_length] at hcf
        have kU := Kp.unlock wi hd k2
        have b9 := bound F nd2 hR2
        refine ⟨k2.at upd_same, F, c, v4, ?_, rfl, kU, by rw [upd_ne nld]; exact hl2, nd2, hR2, hroot2, fun z t ht => hcf z t (by rw [hks]; exact List.mem_map.mpr ⟨t, ht, rfl⟩)⟩
        cases c with
        | false => simp only [Bool.false_eq_true, if_false, if_true]; omega
        | true => have := hct rfl; simp only [if_true]; omega
/-! ### heads -/
def roomsOf (en : Str → Str × Str) (nm : List Str) (root : Str) (pl : List Str) : List (List Str × Int) := pl.map fun p => (into en nm p, if p = root then 0 else 1)
theorem into_keys {kvs : List (Key × V)} {nm : List Str} {en : Str → Str × Str} {p : Str} (h : kvs.map (·.1) = nm.map Sum.inr) (T : Key × V → Bool) (hT : ∀ kv t, kv ∈ kvs → kv.1 = Sum.inr t → T kv = decide ((en t).2 = p)) : ((kvs.filter T).map fun kv => kV kv.1) = (into en nm p).map V.str := by
  induction kvs generalizing nm with
  | nil => cases nm with
    | nil => rfl
    | cons a nm => cases h
  | cons kv kvs ih =>
    cases nm with
    | nil => cases h
    | cons t nm =>
      rw [List.map_cons, List.map_cons] at h
      obtain ⟨h1, h2⟩ := List.cons.inj h
      have ih' := ih h2 fun kv' t' hk => hT kv' t' (List.mem_cons_of_mem _ hk)
      have e := hT kv t List.mem_cons_self h1
      unfold into at ih' ⊢
      rw [List.filter_cons, List.filter_cons, e]
      by_cases hp : (en t).2 = p
      · rw [decide_eq_true hp, if_pos rfl, if_pos rfl, List.map_cons, List.map_cons, ih', h1]; rfl
      · rw [decide_eq_false hp, if_neg Bool.false_ne_true, if_neg Bool.false_ne_true, ih']
/-- a room as it is made, its lot not the list l -/
def roomN (l : Addr) (H : Hp) (v : V) (q : List Str × Int) : Prop := ∃ t a, v = .ref t ∧ a ≠ l ∧ H t = some (.tup [.ref a, .int q.2]) ∧ H a = some (.lst (q.1.map V.str))
theorem roomN.mono {l : Addr} {R : Reg} {H H' : Hp} (k : Kp R H H') {v : V} {x : List Str × Int} (h : roomN l H v x) : roomN l H' v x := by
  obtain ⟨t, a, e, n, h1, h2⟩ := h
  exact ⟨t, a, e, n, k.at h1, k.at h2⟩
theorem roomN.updl {l : Addr} {H : Hp} {xs ys : List V} (hl : H l = some (.lst xs)) {v : V} {x : List Str × Int} (h : roomN l H v x) : roomN l (upd H l (.lst ys)) v x := by
  obtain ⟨t, a, e, n, h1, h2⟩ := h
  exact ⟨t, a, e, n, by rw [upd_ne fun z => by rw [z, hl] at h1; cases h1]; exact h1, by rw [upd_ne n]; exact h2⟩
theorem roomN.l {l : Addr} {H : Hp} {v : V} {x : List Str × Int} (h : roomN l H v x) : roomL H v x := by
  obtain ⟨t, a, e, n, h1, h2⟩ := h
  exact ⟨t, a, e, h1, h2⟩
def spHeads (K : PySem.W.Frag) : Sp := fun vs H Q _ => ∃ (R : Reg) (pa d s : Addr) (pl nm : List Str) (en : Str → Str × Str) (root : Str) (r : List Str → Nat), vs = [.ref pa, .ref d, .ref s] ∧ WInv R H ∧ H pa = some (.lst (pl.map V.str)) ∧ ArcS H d nm en ∧ H s = some (.lst [.str root]) ∧ ArcOk pl nm en ∧
  Bf.IsRk r ∧ (∀ A, Lot nm A → cntRk (roomsOf en nm root pl) A = r A) ∧ (∀ x, x ∈ nm → PyData.strOk x = true) ∧
  ∀ R' H' p, Ext R R' → Kp R H H' → WInv R' H' → FamB K R' H' p nm r → Q (.ref p) H'
abbrev N_law_heads : List Str := ["_law_places", "_law_arcs_here", "_law_roots", "_law_rooms", "_law_place", "_law_lot", "_law_name"]
theorem sc_law_heads : FnScope N_law_heads ["_law_places", "_law_arcs_here", "_law_roots"] (defScope s_law_heads) := ⟨rfl, rfl, rfl, by decide +kernel, rfl, by decide +kernel, by decide +kernel⟩
theorem c_law_heads (T : Txt K mg) : Call P w K mg base 6 "_law_heads" ["_law_places", "_law_arcs_here", "_law_roots"] (spHeads K) := by
  obtain ⟨fc, F_Counts, b_Counts⟩ := (c_Counts_init (P := P) (w := w) (base := base) T).ex
  refine mkCall T.d_law_heads sc_law_heads (fun _ _ _ _ _ _ us hl => match us, hl with | [_, _, _], _ => rfl) (fun vs H Q E h => ?_) (fun cdv A outer s H vs Q E hr h => ?_)
  · obtain ⟨R, pa, d, s, pl, nm, en, root, r, rfl, _⟩ := h; rfl
  · obtain ⟨R, pa, d, s, pl, nm, en, root, r, rfl, wi, hpa, hArc, hs, ok, rk, hrk, sok, q⟩ := h
    have hu := hu_of hr
    have l8 := ok.l8
    have p5 := ok.p5
    obtain ⟨kvs, hd, hks, hv⟩ := hArc.ob
    have kl : kvs.length = nm.length := by have := congrArg List.length hks; rw [List.length_map, List.length_map] at this; exact this
    refine ⟨_, (pss_cons (ps_set (i := 3) sc_law_heads.nd rfl (Or.inl rfl) (pe_lst pa_nil))
      (pss_cons (ps_for PassesOwn.never rfl (pi_list (pv 0)) (pg_name (i := 4) sc_law_heads.nd rfl (by first | exact Or.inl rfl | exact Or.inr rfl)) (pss_cons (ps_set (i := 5) sc_law_heads.nd rfl (Or.inl rfl) (pe_callB cr_sortedS (by rfl) T.f_sorted bt_sorted (pa_cons (pe_lock (pe_lc (own := [("_law_name", 6)]) (by rfl) sc_law_heads.nd (pi_keys (pv 1)) (blkOk_by (own := [("_law_name", 6)]) (N := N_law_heads) (sc := defScope s_law_heads) (by decide +kernel)) (fun _ _ _ _ _ => (pg_name (i := 6) sc_law_heads.nd rfl (by first | exact Or.inl rfl | exact Or.inr rfl))) (fun _ _ _ _ _ => (pts_one (pt_cmpR op_eq (pe_ix (show IxR _ (rIxT K) from ix_tup) (pe_dget hu (pv 1) (pv 6) (fun _ _ => rfl)) pe_int (fun _ _ => rfl)) (pv 4) (nomark _)))) (fun _ _ _ _ _ => (pv 6)))) pa_nil)))
      (pss_one (ps_expr (pe_bm PySem.F.plainAttrs_list PySem.F.slot_list_append PySem.F.type_list_append mt_append (pv 3) (pa_cons (pe_tup (pa_cons (pv 5) (pa_cons (pe_callTy call_int1 (by rfl) T.f_int bt_int (pa_cons (pe_cmpR op_notIn_seq (pv 4) (pv 2) (by rfl)) pa_nil)) pa_nil))) pa_nil))))))
      (pss_one (ps_ret (pe_f (c_counts_family T) hr (pa_cons (pe_make T.k_Counts F_Counts (hr.mono (by decide)) (by rfl) T.g_Counts b_Counts .nil pass0 (pa_cons (pe_callB (call_sortedD rfl) (by rfl) T.f_sorted bt_sorted (pa_cons (pv 1) pa_nil)) (pa_cons (pv 3) pa_nil))) pa_nil)))))), ?_⟩
    refine ⟨Nat.zero_le _, fun l nl => ?_⟩
    have k1 := Kp.upd wi nl (o := .lst [])
    refine ⟨_, rfl, pa, rfl, ⟨_, SqL.of (k1.at hpa)⟩, ?_⟩
    refine forG (G := fun H2 => H2 pa = some (.lst (pl.map V.str))) (src_lstG (c := V.str) (its := pl) fun _ g => g)
      (fun i σ H2 => ∃ (ws : List V) (v4 v5 : Option V), σ = [some (.ref pa), some (.ref d), some (.ref s), some (.ref l), v4, v5, none] ∧ Kp R H H2 ∧ H2 l = some (.lst ws) ∧ Paired (roomN l H2) ws (roomsOf en nm root (pl.take i)))
      (fun i σ H2 ⟨_, _, _, _, k, _⟩ => k.at hpa) ⟨[], none, none, rfl, k1, upd_same, .nil⟩ ?_ ?_
    · rintro i p σ H2 hp ⟨ws, v4, v5, rfl, k2, hl2, pr⟩
      have lw : ws.length ≤ 5 := by
        have h1 := pr.length
        unfold roomsOf at h1
        rw [List.length_map, List.length_take] at h1
        omega
      -- lot
      refine ⟨d, _, k2.at hd, trivial, fun od => ?_⟩
      refine ⟨_, rfl, d, od, rfl, .inl ⟨kvs, upd_same, fun D hD => ?_⟩⟩
      refine lcN hD (src_keys (R := R) upd_same) (Kp.lock k2.w (k2.at hd)) (by omega) (fun kv => match kv.1 with | .inr t => decide ((en t).2 = p) | _ => false) (fun kv => kV kv.1) (fun _ => rfl) (fun kv hkv H3 k3 QT q' => ?_)
        (fun kv hkv _ H3 k3 Q' q' => ⟨_, rfl, q' H3 (Kp.refl k3.w)⟩) fun H3 k3 e3 => ?_
      · obtain ⟨t, ht, ekv⟩ := key_in hks hkv
        obtain ⟨e, he1, he2⟩ := hv t ht
        have heL : (upd H2 d (.frz od (.dK kvs))) e = some (.tup [.str (en t).1, .str (en t).2]) := by rw [upd_ne (fun z => by rw [z, hd] at he2; cases he2)]; exact k2.at he2
        have eV : kV kv.1 = .str t := by rw [ekv]; rfl
        have eT : (match kv.1 with | .inr t => decide ((en t).2 = p) | _ => false) = decide ((en t).2 = p) := by rw [ekv]
        rw [eT] at q'
        rw [eV]
        refine ⟨_, rfl, _, rfl, d, _, rfl, dgetF (k3.at upd_same) he1, e, _, 1, _, rfl, rfl, SqT.of (k3.at heL), rfl, _, rfl, rfl, _, rfl, ?_⟩
        have e' : decide (V.str (en t).2 = V.str p) = decide ((en t).2 = p) := by
          by_cases h : (en t).2 = p
          · rw [h]; simp
          · rw [decide_eq_false h, decide_eq_false fun z => h (V.str.inj z)]
        rw [e']
        exact q' H3 (Kp.refl k3.w)
      · rw [into_keys (en := en) (p := p) hks _ (fun kv t hk e => by rw [e])] at e3
        refine ⟨k3.at upd_same, ?_⟩
        have kU := Kp.unlock k2.w (k2.at hd) k3
        have nDd : D ≠ d := fun z => by rw [z, upd_same] at hD; cases hD
        have e3' : (upd H3 d (.dK kvs)) D = some (.lst ((into en nm p).map V.str)) := by rw [upd_ne nDd]; exact e3
        have il := into_len (en := en) (nm := nm) p
        have iss : SS (into en nm p) := ok.ss.filter _
        refine ⟨D, into en nm p, rfl, SqL.of e3', by omega, fun ys g hg hs' ng => ?_⟩
        rw [sorted_is hg hs', srt_of_ss iss]
        have k4 := kU.new ng (o := .lst ((into en nm p).map V.str))
        have k24 := k2.trans k4
        -- rooms.append
        refine ⟨_, rfl, .inl ⟨rfl, _, SqL.of (k4.at hl2)⟩, _, rfl, _, rfl, _, rfl, s, [.str root], rfl, .inl (SqL.of (k24.at hs)), rfl, rfl, .inr ⟨_, rfl, ?_⟩⟩
        have eN : (if true = true then !inV (V.str p) [V.str root] else inV (V.str p) [V.str root]) = !decide (p = root) := by
          rw [if_pos rfl, show ([V.str root] : List V) = [root].map V.str from rfl, inV_str]
          simp
        rw [eN]
        refine ⟨by show 2 ≤ sizeLine; decide, fun f nf => ?_⟩
        have kf := Kp.upd k4.w nf (o := .tup [V.ref g, V.int (if (!decide (p = root)) = true then 1 else 0)])
        refine ⟨l, _, _, rfl, rfl, (k4.trans kf).at hl2, Nat.lt_of_le_of_lt lw (by decide), ?_⟩
        have hll := (k4.trans kf).at hl2
        refine ⟨ws ++ [V.ref f], _, _, rfl, (k24.trans kf).mut nl, upd_same, ?_⟩
        have ngl : g ≠ l := fun z => by rw [z, kU.at hl2] at ng; cases ng
        have nfl : f ≠ l := fun z => by rw [z, k4.at hl2] at nf; cases nf
        rw [take_succ_at hp]
        unfold roomsOf at pr ⊢
        rw [List.map_append]
        refine paired_app (L2.Paired.mapP pr fun v x h => (h.mono (k4.trans kf)).updl hll) (.cons (roomN.updl hll ⟨f, g, rfl, ngl, ?_, kf.at upd_same⟩) .nil)
        rw [upd_same]
        show some (HO.tup [V.ref g, V.int (if (!decide (p = root)) = true then 1 else 0)]) = some (HO.tup [V.ref g, V.int (if p = root then 0 else 1)])
        by_cases h : p = root
        · rw [decide_eq_true h, if_pos h]; rfl
        · rw [decide_eq_false h, if_neg h]; rfl
    · rintro σ H2 ⟨ws, v4, v5, rfl, k2, hl2, pr⟩
      rw [List.take_length] at pr
      refine ⟨_, rfl, d, kvs, nm, rfl, Rd.of (k2.at hd), hks, by omega, fun ys g hg hs' ng => ?_⟩
      rw [sorted_is hg hs', srt_of_ss ok.ss]
      have k3 := k2.new ng (o := .lst (nm.map V.str))
      have kg := Kp.upd k2.w ng (o := .lst (nm.map V.str))
      refine ⟨_, rfl, ?_⟩
      have rlen : (roomsOf en nm root pl).length ≤ 60 := by unfold roomsOf; rw [List.length_map]; omega
      refine fun u du nu ndu _ => ⟨R, _, u, g, l, du, nm, ws, roomsOf en nm root pl, rfl, (Kp.upd k3.w ndu).mut nu, nu, upd_same, ((Kp.upd k3.w ndu).mut nu).at upd_same, ok.ss, ok.nn, by omega, ((Kp.upd k3.w ndu).mut nu).at (kg.at hl2), L2.Paired.mapP pr fun v x h => (h.mono (kg.trans ((Kp.upd k3.w ndu).mut nu))).l, rlen, fun rm hrm => ?_, ?_, fun H4 k4 hC => ⟨rfl, ?_⟩⟩
      · unfold roomsOf at hrm
        obtain ⟨p, hp, rfl⟩ := List.mem_map.mp hrm
        refine ⟨ok.ss.filter _, fun x hx => (mem_into.mp hx).1, ?_⟩
        show (0 : Int) ≤ if p = root then 0 else 1
        split <;> decide
      · unfold roomsOf
        rw [List.pairwise_map]
        refine List.Pairwise.imp (R := slt) (fun {p q'} hpq x hx hx' => ?_) ok.ps
        have h1 := (mem_into.mp hx).2
        have h2 := (mem_into.mp hx').2
        rw [← h1, ← h2] at hpq
        exact slt_irrefl _ hpq
      · have k34 := k3.trans k4
        exact ⟨R, u, nm, r, rfl, k4.w, ⟨_, hC, hrk⟩, ok.ss, ok.l8, rk, sok, fun R' H' z ext k5 w5 hF => q R' H' z ext (k34.trans k5) w5 hF⟩
end
end Bw
set_option Elab.async false
set_option linter.all false
set_option pp.maxSteps 300
set_option maxRecDepth 100000
set_option maxHeartbeats 4000000
/-! the law's own helpers: trees -/
namespace Bw
open PySem PySem.Spec PyProof.Rows L2 Bt Bs Bm
theorem full_len {F pl : List Str} (nF : F.Nodup) (np : pl.Nodup) (s : ∀ x, x ∈ F → x ∈ pl) : F.length = pl.length ↔ ∀ p, p ∈ pl → p ∈ F := by
  have h1 := Bf.nodup_le nF s
  constructor
  · intro h p hp
    apply Classical.byContradiction
    intro hn
    have := Bf.nodup_le (List.nodup_cons.mpr ⟨hn, nF⟩) (B := pl) fun x hx => (List.mem_cons.mp hx).elim (fun e => e ▸ hp) (s x)
    rw [List.length_cons] at this
    omega
  · intro h
    have := Bf.nodup_le np h
    omega
theorem rch_in {en : Str → Str × Str} {L pl : List Str} {root : Str} (hr : root ∈ pl) (h : ∀ t, t ∈ L → (en t).2 ∈ pl) {x : Str} (hx : Rch en L root x) : x ∈ pl := by
  cases hx with
  | base => exact hr
  | step ht _ => exact h _ ht
section
variable {P : Program} {w : World} {K : PySem.W.Frag} {mg : Str → Option Value} {base : Heap}
def spTrees : Sp := fun vs H Q _ => ∃ (R : Reg) (pa d : Addr) (pl nm : List Str) (en : Str → Str × Str) (root : Str), vs = [.ref pa, .ref d, .str root] ∧ WInv R H ∧ H pa = some (.lst (pl.map V.str)) ∧ ArcS H d nm en ∧ ArcOk pl nm en ∧ root ∈ pl ∧
  ∀ H' l vs (b : List Str → Bool), Kp R H H' → H l = none → H' l = some (.lst vs) → (∀ L, L ∈ prodL en nm root pl → (b L = true ↔ ∀ p, p ∈ pl → Rch en L root p)) → Paired (lotV H') vs ((prodL en nm root pl).filter b) → (prodL en nm root pl).length ≤ 32768 → Q (.ref l) H'
abbrev N_law_trees : List Str := ["_law_places", "_law_arcs_here", "_law_root", "_law_found", "_law_place", "_law_into", "_law_longer", "_law_lot", "_law_name"]
theorem sc_law_trees : FnScope N_law_trees ["_law_places", "_law_arcs_here", "_law_root"] (defScope s_law_trees) := ⟨rfl, rfl, rfl, by decide +kernel, rfl, by decide +kernel, by decide +kernel⟩
theorem c_law_trees (T : Txt K mg) : Call P w K mg base 2 "_law_trees" ["_law_places", "_law_arcs_here", "_law_root"] spTrees := by
  refine mkCall T.d_law_trees sc_law_trees (fun _ _ _ _ _ _ us hl => match us, hl with | [_, _, _], _ => rfl) (fun vs H Q E h => ?_) (fun cdv A outer s H vs Q E hr h => ?_)
  · obtain ⟨R, pa, d, pl, nm, en, root, rfl, _⟩ := h; rfl
  · obtain ⟨R, pa, d, pl, nm, en, root, rfl, wi, hpa, hArc, ok, hroot, q⟩ := h
    have hu := hu_of hr
    have l8 := ok.l8
    have p5 := ok.p5
    obtain ⟨kvs, hd, hks, hv⟩ := hArc.ob
    have kl : kvs.length = nm.length := by have := congrArg List.length hks; rw [List.length_map, List.length_map] at this; exact this
    refine ⟨_, (pss_cons (ps_set (i := 3) sc_law_trees.nd rfl (Or.inl rfl) (pe_lst (pa_cons (pe_tup pa_nil) pa_nil)))
      (pss_cons (ps_for PassesOwn.never rfl (pi_list (pv 0)) (pg_name (i := 4) sc_law_trees.nd rfl (by first | exact Or.inl rfl | exact Or.inr rfl)) (pss_one (ps_if (pt_cmpR op_ne (pv 4) (pv 2) (nomark _)) (pss_cons (ps_lock (ps_setLc (i := 5) (own := [("_law_name", 8)]) (by rfl) sc_law_trees.nd rfl rfl (sw_true rfl rfl rfl (by decide +kernel)) (pi_keys (pv 1)) (blkOk_by (own := [("_law_name", 8)]) (N := N_law_trees) (sc := defScope s_law_trees) (by decide +kernel)) (fun _ _ _ _ _ => (pg_name (i := 8) sc_law_trees.nd rfl (by first | exact Or.inl rfl | exact Or.inr rfl))) (fun _ _ _ _ _ => (pts_one (pt_cmpR op_eq (pe_ix (show IxR _ (rIxT K) from ix_tup) (pe_dget hu (pv 1) (pv 8) (fun _ _ => rfl)) pe_int (fun _ _ => rfl)) (pv 4) (nomark _)))) (fun _ _ _ _ _ => (pv 8))))
      (pss_cons (ps_set (i := 6) sc_law_trees.nd rfl (Or.inl rfl) (pe_lst pa_nil))
      (pss_cons (ps_for PassesOwn.never rfl (pi_list (pv 3)) (pg_name (i := 7) sc_law_trees.nd rfl (by first | exact Or.inl rfl | exact Or.inr rfl)) (pss_one (ps_expr (pe_bm PySem.F.plainAttrs_list PySem.F.slot_list_extend PySem.F.type_list_extend mt_extend (pv 6) (pa_cons (pe_lc (own := [("_law_name", 8)]) (by rfl) sc_law_trees.nd (pi_list (pv 5)) (blkOk_by (own := [("_law_name", 8)]) (N := N_law_trees) (sc := defScope s_law_trees) (by decide +kernel)) (fun _ _ _ _ _ => (pg_name (i := 8) sc_law_trees.nd rfl (by first | exact Or.inl rfl | exact Or.inr rfl))) (fun _ _ _ _ _ => pts_nil) (fun _ _ _ _ _ => (pe_op (show OpR _ _ (rCatA K) from op_catA) (pv 7) (pe_tup (pa_cons (pv 8) pa_nil))))) pa_nil)))))
      (pss_one (ps_set (i := 3) sc_law_trees.nd rfl (Or.inl rfl) (pv 6)))))) pss_nil)))
      (pss_one (ps_ret (pe_lc (own := [("_law_lot", 7)]) (by rfl) sc_law_trees.nd (pi_list (pv 3)) (blkOk_by (own := [("_law_lot", 7)]) (N := N_law_trees) (sc := defScope s_law_trees) (by decide +kernel)) (fun _ _ _ _ _ => (pg_name (i := 7) sc_law_trees.nd rfl (by first | exact Or.inl rfl | exact Or.inr rfl))) (fun _ _ _ _ _ => (pts_one (pt_cmpR op_eq (pe_callB (show CallR _ _ (fun xs H Q => ∃ p ys, xs = [.ref p] ∧ (SqL K H p ys ∨ SqT K H p ys) ∧ Q (.int ys.length) H) from call_len_seq) (by rfl) T.f_len bt_len (pa_cons (pe_f (c_law_reached T) hr (pa_cons (pe_callTy (show CallR _ _ (fun xs H Q => ∃ (a : Addr) (ps : List Addr) (kvs : List (Key × V)), xs = [.ref a] ∧ SqL K H a (ps.map V.ref) ∧ Paired (fun p kv => SqT K H p [kV kv.1, kv.2]) ps kvs ∧ ∀ p, H p = none → Q (.ref p) (upd H p (.dK (mergeK [] kvs)))) from (call_dictP rfl)) (by rfl) T.f_dict bt_dict (pa_cons (pe_lc (own := [("_law_name", 8)]) (by rfl) sc_law_trees.nd (show PI _ _ _ (iTup K _) from pi_tup (pv 7)) (blkOk_by (own := [("_law_name", 8)]) (N := N_law_trees) (by rfl)) (fun _ _ _ _ _ => (pg_name (i := 8) sc_law_trees.nd rfl (by first | exact Or.inl rfl | exact Or.inr rfl))) (fun _ _ _ _ _ => pts_nil) (fun _ _ _ _ _ => (pe_tup (pa_cons (pv 8) (pa_cons (pe_dget hu (pv 1) (pv 8) (fun _ _ => rfl)) pa_nil))))) pa_nil)) (pa_cons (pe_lst (pa_cons (pv 2) pa_nil)) pa_nil))) pa_nil)) (pe_callB (show CallR _ _ (fun xs H Q => ∃ p ys, xs = [.ref p] ∧ (SqL K H p ys ∨ SqT K H p ys) ∧ Q (.int ys.length) H) from call_len_seq) (by rfl) T.f_len bt_len (pa_cons (pv 0) pa_nil)) (nomark _)))) (fun _ _ _ _ _ => (pv 7))))))), ?_⟩
    refine ⟨Nat.zero_le _, fun t0 nt0 => ?_⟩
    have k0 := Kp.upd wi nt0 (o := .tup [])
    refine ⟨by show 1 ≤ sizeLine; decide, fun f0 nf0 => ?_⟩
    have kf0 := Kp.upd k0.w nf0 (o := .lst [V.ref t0])
    have k1 := k0.trans kf0
    refine ⟨_, rfl, pa, rfl, ⟨_, SqL.of (k1.at hpa)⟩, ?_⟩
    refine forG (G := fun H2 => H2 pa = some (.lst (pl.map V.str))) (src_lstG (c := V.str) (its := pl) fun _ g => g)
      (fun i σ H2 => ∃ (fl : Addr) (ws : List V) (v4 v5 v6 v7 : Option V), σ = [some (.ref pa), some (.ref d), some (.str root), some (.ref fl), v4, v5, v6, v7, none] ∧ Kp R H H2 ∧ H fl = none ∧ H2 fl = some (.lst ws) ∧ Paired (lotV H2) ws ((pl.take i).foldl (pstep en nm root) [[]]) ∧ ((pl.take i).foldl (pstep en nm root) [[]]).length ≤ 8 ^ i)
      (fun i σ H2 ⟨_, _, _, _, _, _, _, k, _⟩ => k.at hpa) ⟨f0, [V.ref t0], none, none, none, none, rfl, k1, k0.fr nf0, upd_same, .cons ⟨t0, rfl, kf0.at upd_same⟩ .nil, by show 1 ≤ 1; decide⟩ ?_ ?_
    · rintro i p σ H2 hp ⟨fl, ws, v4, v5, v6, v7, rfl, k2, nfl, hfl, pr, lfound⟩
      have hi5 : i < 5 := by have := (List.getElem?_eq_some_iff.mp hp).1; omega
      have es : (pl.take (i + 1)).foldl (pstep en nm root) [[]] = pstep en nm root ((pl.take i).foldl (pstep en nm root) [[]]) p := by
        rw [take_succ_at hp, List.foldl_append]; rfl
      rw [es]
      have lnew : (pstep en nm root ((pl.take i).foldl (pstep en nm root) [[]]) p).length ≤ 8 ^ (i + 1) := Nat.le_trans (pstep_len l8) (by rw [Nat.pow_succ]; exact Nat.mul_le_mul_right _ lfound)
      have l8i : 8 ^ i ≤ 4096 := Nat.le_trans (Nat.pow_le_pow_right (by decide) (show i ≤ 4 by omega)) (by decide)
      have hfd : ∀ L, L ∈ (pl.take i).foldl (pstep en nm root) [[]] → L.length ≤ 5 := fun L hL => by
        obtain ⟨L0, h0, M, rfl, h2, _⟩ := (mem_prod _ _ _).mp hL
        rw [List.mem_singleton.mp h0, List.nil_append]
        have h3 := congrArg List.length h2
        rw [List.length_map] at h3
        have h4 := List.length_filter_le (fun p => decide (p ≠ root)) (pl.take i)
        rw [List.length_take] at h4
        omega
      generalize (pl.take i).foldl (pstep en nm root) [[]] = fd at pr lfound lnew hfd
      refine ⟨_, rfl, _, rfl, rfl, _, rfl, ?_⟩
      by_cases hpr : p = root
      · have e : (!decide (V.str p = V.str root)) = false := by rw [hpr]; simp
        rw [e]
        have e2 : pstep en nm root fd p = fd := if_pos hpr
        rw [e2] at lnew ⊢
        exact iteF ⟨fl, ws, _, v5, v6, v7, rfl, k2, nfl, hfl, pr, lnew⟩
      · have e : (!decide (V.str p = V.str root)) = true := by rw [decide_eq_false fun z => hpr (V.str.inj z)]; rfl
        rw [e]
        have e2 : pstep en nm root fd p = fd.flatMap fun L => (into en nm p).map fun t => L ++ [t] := if_neg hpr
        rw [e2] at lnew ⊢
        refine iteT ?_
        -- into
        refine ⟨d, _, k2.at hd, trivial, fun od => ?_⟩
        refine ⟨_, rfl, d, od, rfl, .inl ⟨kvs, upd_same, fun D hD => ?_⟩⟩
        refine lcN hD (src_keys (R := R) upd_same) (Kp.lock k2.w (k2.at hd)) (by omega) (fun kv => match kv.1 with | .inr t => decide ((en t).2 = p) | _ => false) (fun kv => kV kv.1) (fun _ => rfl) (fun kv hkv H3 k3 QT q' => ?_)
          (fun kv hkv _ H3 k3 Q' q' => ⟨_, rfl, q' H3 (Kp.refl k3.w)⟩) fun H3 k3 e3 => ?_
        · obtain ⟨t, ht, ekv⟩ := key_in hks hkv
          obtain ⟨e, he1, he2⟩ := hv t ht
          have heL : (upd H2 d (.frz od (.dK kvs))) e = some (.tup [.str (en t).1, .str (en t).2]) := by rw [upd_ne (fun z => by rw [z, hd] at he2; cases he2)]; exact k2.at he2
          have eV : kV kv.1 = .str t := by rw [ekv]; rfl
          have eT : (match kv.1 with | .inr t => decide ((en t).2 = p) | _ => false) = decide ((en t).2 = p) := by rw [ekv]
          rw [eT] at q'
          rw [eV]
          refine ⟨_, rfl, _, rfl, d, _, rfl, dgetF (k3.at upd_same) he1, e, _, 1, _, rfl, rfl, SqT.of (k3.at heL), rfl, _, rfl, rfl, _, rfl, ?_⟩
          have e' : decide (V.str (en t).2 = V.str p) = decide ((en t).2 = p) := by
            by_cases h : (en t).2 = p
            · rw [h]; simp
            · rw [decide_eq_false h, decide_eq_false fun z => h (V.str.inj z)]
          rw [e']
          exact q' H3 (Kp.refl k3.w)
        rw [into_keys (en := en) (p := p) hks _ (fun kv t hk e => by rw [e])] at e3
        refine ⟨k3.at upd_same, ?_⟩
        have kU := Kp.unlock k2.w (k2.at hd) k3
        have nDd : D ≠ d := fun z => by rw [z, upd_same] at hD; cases hD
        have e3' : (upd H3 d (.dK kvs)) D = some (.lst ((into en nm p).map V.str)) := by rw [upd_ne nDd]; exact e3
        have il := into_len (en := en) (nm := nm) p
        generalize (upd H3 d (.dK kvs)) = H4 at kU e3'
        have k4 := k2.trans kU
        have hfl4 := kU.at hfl
        have pr4 : Paired (lotV H4) ws fd := L2.Paired.mapP pr fun v L h => h.mono kU
        -- longer
        refine ⟨Nat.zero_le _, fun lo nlo => ?_⟩
        have nloH := k4.fr nlo
        obtain ⟨its, rfl, rfl, hits⟩ := paired_zip pr4
        rw [List.length_map] at lfound
        have ko := Kp.upd kU.w nlo (o := .lst [])
        refine ⟨_, rfl, fl, rfl, ⟨_, SqL.of (ko.at hfl4)⟩, ?_⟩
        refine forG (G := fun H5 => H5 fl = some (.lst (its.map (·.1)))) (src_lstG (c := (·.1)) (its := its) fun _ g => g)
          (fun j σ H5 => ∃ (v7 : Option V) (ls : List V), σ = [some (.ref pa), some (.ref d), some (.str root), some (.ref fl), some (.str p), some (.ref D), some (.ref lo), v7, none] ∧ Kp R H4 H5 ∧ H5 lo = some (.lst ls) ∧ ls.length ≤ j * 8 ∧ Paired (lotV H5) ls (((its.take j).map (·.2)).flatMap fun L => (into en nm p).map fun t => L ++ [t]))
          (fun j σ H5 ⟨_, _, _, k, _⟩ => k.at hfl4) ⟨v7, [], rfl, ko, upd_same, Nat.zero_le _, .nil⟩ ?_ ?_
        · rintro j x σ H5 hx ⟨v7, ls, rfl, k5, hlo, lls, prl⟩
          have hj : j < its.length := (List.getElem?_eq_some_iff.mp hx).1
          obtain ⟨xt, ex, hxt⟩ := hits x (List.mem_of_getElem? hx)
          have hxt5 := k5.at hxt
          rw [ex]
          refine ⟨_, rfl, .inl ⟨rfl, _, SqL.of hlo⟩, ?_⟩
          refine ⟨_, rfl, D, rfl, ⟨_, SqL.of (k5.at e3')⟩, fun D2 hD2 => ?_⟩
          refine lcG hD2 (src_lst (c := V.str) (its := into en nm p) (k5.at e3')) k5.w (by omega) (fun t v H => lotV H v (x.2 ++ [t])) (fun _ => true) (fun x => _) (fun t v Ha Hb kk h => h.mono kk) (fun t v Ha xs ys hx h => h.updl hx) (fun x => ?_) (fun t ht H6 k6 QG qg => qg) (fun t ht H6 k6 QT qt => qt H6 (Kp.refl k6.w)) (fun t ht hT xs H6 k6 hDD Q' q' => ?_) fun H6 ys k6 e6 pr6 => ?_
          · rfl
          · refine ⟨_, rfl, _, rfl, by show 1 ≤ sizeLine; decide, fun z nz => ?_⟩
            have kz := Kp.upd k6.w nz (o := .tup [V.str t])
            have hx6 := kz.at (k6.at hxt5)
            have xl : x.2.length ≤ 5 := hfd x.2 (List.mem_map.mpr ⟨x, List.mem_of_getElem? hx, rfl⟩)
            refine ⟨xt, z, x.2.map V.str, [V.str t], rfl, rfl, SqT.of hx6, SqT.of upd_same, ?_, fun e => ?_, fun _ e => (by cases e), fun _ _ y ny => ?_⟩
            · rw [List.length_map]
              exact Nat.le_trans (show _ ≤ 5 + 1 from Nat.add_le_add_right xl _) (by decide)
            · have e0 : x.2 = [] := List.map_eq_nil_iff.mp e
              exact q' _ _ kz ⟨z, rfl, by rw [e0]; exact upd_same⟩
            · exact q' _ _ (kz.new ny) ⟨y, rfl, by rw [upd_same, List.map_append]; rfl⟩
          · rw [List.filter_eq_self.mpr (fun _ _ => rfl)] at pr6
            have ly : ys.length ≤ 8 := by rw [← pr6.length]; omega
            refine ⟨lo, D2, ls, ys, rfl, rfl, k6.at hlo, e6, Nat.le_trans (show _ ≤ 4096 * 8 + 8 from by omega) (by decide), ?_⟩
            refine ⟨_, ls ++ ys, rfl, (k5.trans k6).mut nlo, upd_same, by rw [List.length_append]; omega, ?_⟩
            rw [take_succ_at hx, List.map_append, List.flatMap_append]
            refine paired_app (L2.Paired.mapP prl fun v L h => (h.mono k6).updl (k6.at hlo)) ?_
            have aux : ∀ {zs : List Str} {vs : List V}, Paired (fun t v => lotV H6 v (x.2 ++ [t])) zs vs → Paired (lotV (upd H6 lo (.lst (ls ++ ys)))) vs (zs.map fun t => x.2 ++ [t]) := by
              intro zs vs pp
              induction pp with
              | nil => exact .nil
              | cons r t ih => exact .cons (r.updl (k6.at hlo)) ih
            have := aux pr6
            simpa using this
        · rintro σ H5 ⟨v7, ls, rfl, k5, hlo, lls, prl⟩
          rw [List.take_length] at prl
          exact ⟨_, rfl, lo, ls, _, _, _, v7, rfl, k4.trans k5, nloH, hlo, prl, lnew⟩
    · rintro σ H2 ⟨fl, ws, v4, v5, v6, v7, rfl, k2, nfl, hfl, pr, lfound⟩
      rw [List.take_length] at pr lfound
      have lfd : (prodL en nm root pl).length ≤ 32768 := Nat.le_trans lfound (Nat.le_trans (Nat.pow_le_pow_right (by decide) p5) (by decide))
      have hin : ∀ L, L ∈ prodL en nm root pl → L.Nodup ∧ (∀ t, t ∈ L → t ∈ nm) ∧ L.length ≤ 5 := fun L hL => by
        have nd := prod_nd ok.ps.nodup hL
        obtain ⟨m1, m2⟩ := mem_prodL.mp hL
        refine ⟨nd, m2, ?_⟩
        have := congrArg List.length m1
        rw [List.length_map] at this
        have h2 := List.length_filter_le (fun p => decide (p ≠ root)) pl
        omega
      have pr' : Paired (lotV H2) ws (prodL en nm root pl) := pr
      obtain ⟨its, rfl, ei, hits⟩ := paired_zip pr'
      have il : its.length ≤ 32768 := by rw [ei, List.length_map] at lfd; exact lfd
      refine ⟨_, rfl, fl, rfl, ⟨_, SqL.of hfl⟩, fun D hD => ?_⟩
      refine lcG hD (src_lst (c := (·.1)) (its := its) hfl) k2.w (by omega) (fun x v H => lotV H v x.2) (fun x => @decide (∀ p, p ∈ pl → Rch en x.2 root p) (Classical.propDecidable _)) (fun x => _) (fun x v Ha Hb kk h => h.mono kk) (fun x v Ha xs ys hx h => h.updl hx) (fun x => ?_) (fun x hx H3 k3 QG qg => qg) (fun x hx H3 k3 QT qt => ?_) (fun x hx hT xs H3 k3 hDD Q' q' => ?_) fun H3 ys k3 e3 pr3 => ?_
      · rfl
      · obtain ⟨xt, ex, hxt⟩ := hits x hx
        obtain ⟨nd, sub, l5⟩ := hin x.2 (by rw [ei]; exact List.mem_map.mpr ⟨x, hx, rfl⟩)
        rw [ex]
        have k23 := k2.trans k3
        refine ⟨_, rfl, xt, rfl, ⟨_, SqT.of (k3.at hxt)⟩, fun D3 hD3 => ?_⟩
        refine lcG hD3 (src_tup (c := V.str) (its := x.2) (k3.at hxt)) k3.w (by omega) (fun t v H => ∃ z e, v = .ref z ∧ H z = some (.tup [.str t, .ref e]) ∧ valV kvs (Sum.inr t) = some (.ref e)) (fun _ => true) (fun x => _) (fun t v Ha Hb kk ⟨z, e, h1, h2, h3⟩ => ⟨z, e, h1, kk.at h2, h3⟩)
          (fun t v Ha xs ys hx ⟨z, e, h1, h2, h3⟩ => ⟨z, e, h1, by rw [upd_ne fun q => by rw [q, hx] at h2; cases h2]; exact h2, h3⟩) (fun x => ?_) (fun t ht H6 k6 QG qg => qg) (fun t ht H6 k6 QT qt => qt H6 (Kp.refl k6.w)) (fun t ht hT xs H6 k6 hDD Q' q' => ?_) fun H6 ys k6 e6 pr6 => ?_
        · rfl
        · obtain ⟨e, he1, he2⟩ := hv t (sub t ht)
          refine ⟨_, rfl, _, rfl, _, rfl, d, _, rfl, dgetK ((k23.trans k6).at hd) he1, by show 2 ≤ sizeLine; decide, fun z nz => ?_⟩
          exact q' _ _ (Kp.upd k6.w nz) ⟨z, e, rfl, upd_same, he1⟩
        · rw [List.filter_eq_self.mpr (fun _ _ => rfl)] at pr6
          let gv : Str → V := fun t => (valV kvs (Sum.inr t)).getD .non
          obtain ⟨ps, rfl, prk⟩ : ∃ ps : List Addr, ys = ps.map V.ref ∧ Paired (fun p (kv : Key × V) => SqT K H6 p [kV kv.1, kv.2]) ps (DFn x.2 gv) := by
            have aux : ∀ {zs : List Str} {vs : List V}, Paired (fun t v => ∃ z e, v = .ref z ∧ H6 z = some (.tup [.str t, .ref e]) ∧ valV kvs (Sum.inr t) = some (.ref e)) zs vs → ∃ ps : List Addr, vs = ps.map V.ref ∧ Paired (fun p (kv : Key × V) => SqT K H6 p [kV kv.1, kv.2]) ps (DFn zs gv) := by
              intro zs vs pp
              induction pp with
              | nil => exact ⟨[], rfl, .nil⟩
              | cons r t ih =>
                obtain ⟨ps, e1, e2⟩ := ih
                obtain ⟨z, e, h1, h2, h3⟩ := r
                refine ⟨z :: ps, by rw [e1, h1]; rfl, .cons (SqT.of ?_) e2⟩
                show H6 z = some (.tup [.str _, (valV kvs (Sum.inr _)).getD .non])
                rw [h3]; exact h2
            exact aux pr6
          refine ⟨D3, ps, DFn x.2 gv, rfl, SqL.of e6, prk, fun g ng => ?_⟩
          rw [merge_dfn nd]
          have kg := Kp.upd k6.w ng (o := .dK (DFn x.2 gv))
          have k7 := k6.trans kg
          refine ⟨_, rfl, by show 1 ≤ sizeLine; decide, fun s ns => ?_⟩
          have ks := Kp.upd kg.w ns (o := .lst [V.str root])
          have k8 := k7.trans ks
          have kall := k23.trans k8
          have hA : ArcS (upd (upd H6 g (.dK (DFn x.2 gv))) s (.lst [V.str root])) g x.2 en := ⟨DFn x.2 gv, ks.at upd_same, dfn_keys _ _, fun t ht => by
            obtain ⟨e, he1, he2⟩ := hv t (sub t ht)
            have hg : valV (DFn x.2 gv) (Sum.inr t) = some (.ref e) := by
              rw [dfn_get ht]
              show some ((valV kvs (Sum.inr t)).getD .non) = _
              rw [he1]; rfl
            exact ⟨e, hg, kall.at he2⟩⟩
          refine ⟨R, g, s, x.2, en, root, rfl, ks.w, hA, upd_same, by omega, fun H9 l F k9 nl hl ndF hF => ?_⟩
          refine ⟨l, _, rfl, .inl (SqL.of hl), _, rfl, pa, _, rfl, .inl (SqL.of ((kall.trans k9).at hpa)), rfl, _, rfl, ?_⟩
          rw [List.length_map, List.length_map, dec_int]
          have e : decide (F.length = pl.length) = @decide (∀ p, p ∈ pl → Rch en x.2 root p) (Classical.propDecidable _) := by
            have hiff : F.length = pl.length ↔ ∀ p, p ∈ pl → Rch en x.2 root p := by
              rw [full_len ndF ok.ps.nodup fun y hy => rch_in hroot (fun t ht => (ok.ei t (sub t ht)).2.1) ((hF y).mp hy)]
              exact forall_congr' fun p => forall_congr' fun _ => hF p
            by_cases h : F.length = pl.length
            · rw [decide_eq_true h]
              exact (@decide_eq_true _ (Classical.propDecidable _) (hiff.mp h)).symm
            · rw [decide_eq_false h]
              exact (@decide_eq_false _ (Classical.propDecidable _) (fun z => h (hiff.mpr z))).symm
          rw [e]
          exact qt H9 (k8.trans k9)
      · obtain ⟨xt, ex, hxt⟩ := hits x hx
        exact ⟨_, rfl, q' _ H3 (Kp.refl k3.w) ⟨xt, ex, k3.at hxt⟩⟩
      · refine q H3 D ys (fun L => @decide (∀ p, p ∈ pl → Rch en L root p) (Classical.propDecidable _)) (k2.trans k3) (k2.fr hD) e3 (fun L hL => @decide_eq_true_iff _ (Classical.propDecidable _)) ?_ lfd
        rw [ei, List.filter_map]
        have aux : ∀ {zs : List (V × List Str)} {vs : List V}, Paired (fun x v => lotV H3 v x.2) zs vs → Paired (lotV H3) vs (zs.map (·.2)) := by
          intro zs vs pp
          induction pp with
          | nil => exact .nil
          | cons r t ih => exact .cons r ih
        exact aux pr3
end
end Bw
set_option Elab.async false
set_option maxHeartbeats 4000000
set_option linter.all false
/-! webs: pieces, and the rank as a rank function -/
namespace Bm
open PySem PySem.Spec PyProof.Rows Bs Bf
/-- joined by ties of a lot -/
inductive Cn (en : Str → Str × Str) (A : List Str) (p : Str) : Str → Prop
  | refl : Cn en A p p
  | fwd {t : Str} : t ∈ A → Cn en A p (en t).1 → Cn en A p (en t).2
  | bwd {t : Str} : t ∈ A → Cn en A p (en t).2 → Cn en A p (en t).1
section
variable {en : Str → Str × Str} {A B : List Str} {p q s : Str}
theorem Cn.trans (h : Cn en A p q) (k : Cn en A q s) : Cn en A p s := by
  induction k with
  | refl => exact h
  | fwd ht _ ih => exact .fwd ht ih
  | bwd ht _ ih => exact .bwd ht ih
theorem Cn.symm (h : Cn en A p q) : Cn en A q p := by
  induction h with
  | refl => exact .refl
  | fwd ht _ ih => exact Cn.trans (.bwd ht .refl) ih
  | bwd ht _ ih => exact Cn.trans (.fwd ht .refl) ih
theorem Cn.mono (h : Cn en A p q) (m : ∀ t, t ∈ A → t ∈ B) : Cn en B p q := by
  induction h with
  | refl => exact .refl
  | fwd ht _ ih => exact .fwd (m _ ht) ih
  | bwd ht _ ih => exact .bwd (m _ ht) ih
/-- what one tie more joins -/
theorem cn_snoc {t : Str} : Cn en (A ++ [t]) p q ↔ Cn en A p q ∨ (Cn en A p (en t).1 ∧ Cn en A (en t).2 q) ∨ (Cn en A p (en t).2 ∧ Cn en A (en t).1 q) := by
  constructor
  · intro h
    induction h with
    | refl => exact .inl .refl
    | @fwd x hx _ ih =>
      rcases List.mem_append.mp hx with h | h
      · rcases ih with a | ⟨a, b⟩ | ⟨a, b⟩
        · exact .inl (.fwd h a)
        · exact .inr (.inl ⟨a, .fwd h b⟩)
        · exact .inr (.inr ⟨a, .fwd h b⟩)
      · rw [List.mem_singleton.mp h] at ih ⊢
        rcases ih with a | ⟨a, b⟩ | ⟨a, b⟩
        · exact .inr (.inl ⟨a, .refl⟩)
        · exact .inr (.inl ⟨a, .refl⟩)
        · exact .inl a
    | @bwd x hx _ ih =>
      rcases List.mem_append.mp hx with h | h
      · rcases ih with a | ⟨a, b⟩ | ⟨a, b⟩
        · exact .inl (.bwd h a)
        · exact .inr (.inl ⟨a, .bwd h b⟩)
        · exact .inr (.inr ⟨a, .bwd h b⟩)
      · rw [List.mem_singleton.mp h] at ih ⊢
        rcases ih with a | ⟨a, b⟩ | ⟨a, b⟩
        · exact .inr (.inr ⟨a, .refl⟩)
        · exact .inl a
        · exact .inr (.inr ⟨a, .refl⟩)
  · have m : ∀ x, x ∈ A → x ∈ A ++ [t] := fun x hx => List.mem_append.mpr (.inl hx)
    have ht : t ∈ A ++ [t] := List.mem_append.mpr (.inr (List.mem_singleton.mpr rfl))
    rintro (a | ⟨a, b⟩ | ⟨a, b⟩)
    · exact a.mono m
    · exact Cn.trans (.fwd ht (a.mono m)) (b.mono m)
    · exact Cn.trans (.bwd ht (a.mono m)) (b.mono m)
end
/-- f tells the least place of each piece -/
structure Mk (en : Str → Str × Str) (pl A : List Str) (f : Str → Str) : Prop where
  inn : ∀ p, p ∈ pl → f p ∈ pl
  cn : ∀ p, p ∈ pl → Cn en A p (f p)
  eq : ∀ p q, p ∈ pl → q ∈ pl → (f p = f q ↔ Cn en A p q)
  low : ∀ p, p ∈ pl → ¬ slt p (f p)
section
variable {en : Str → Str × Str} {pl nm A : List Str}
theorem mk_start : Mk en pl [] id where
  inn := fun p h => h
  cn := fun p _ => .refl
  eq := fun p q _ _ => ⟨fun h => by (have h' : p = q := h); rw [h']; exact .refl, fun h => by
    cases h with
    | refl => rfl
    | fwd ht _ => cases ht
    | bwd ht _ => cases ht⟩
  low := fun p _ => slt_irrefl p
theorem mk_step {f : Str → Str} {t : Str} (e1 : (en t).1 ∈ pl) (e2 : (en t).2 ∈ pl) (M : Mk en pl A f) : Mk en pl (A ++ [t]) (mstep en f t) := by
  have up : ∀ {p q}, Cn en A p q → Cn en (A ++ [t]) p q := fun h => h.mono fun x hx => List.mem_append.mpr (.inl hx)
  have ht : t ∈ A ++ [t] := List.mem_append.mpr (.inr (List.mem_singleton.mpr rfl))
  unfold mstep
  by_cases h : f (en t).1 = f (en t).2
  · rw [if_pos h]
    have hc := (M.eq _ _ e1 e2).mp h
    refine ⟨M.inn, fun p hp => up (M.cn p hp), fun p q hp hq => ?_, M.low⟩
    rw [M.eq p q hp hq, cn_snoc]
    constructor
    · exact .inl
    · rintro (a | ⟨a, b⟩ | ⟨a, b⟩)
      · exact a
      · exact (a.trans hc).trans b
      · exact (a.trans hc.symm).trans b
  · rw [if_neg h]
    -- low, high
    obtain ⟨lo, hi, el, eh, hlt, hc⟩ : ∃ lo hi, (if slt (f (en t).2) (f (en t).1) then f (en t).2 else f (en t).1) = lo ∧ (if slt (f (en t).1) (f (en t).2) then f (en t).2 else f (en t).1) = hi ∧ slt lo hi ∧ ((lo = f (en t).1 ∧ hi = f (en t).2) ∨ (lo = f (en t).2 ∧ hi = f (en t).1)) := by
      rcases slt_tri (f (en t).1) (f (en t).2) with a | a | a
      · exact ⟨_, _, if_neg (slt_asymm a), if_pos a, a, .inl ⟨rfl, rfl⟩⟩
      · exact absurd a h
      · exact ⟨_, _, if_pos a, if_neg (slt_asymm a), a, .inr ⟨rfl, rfl⟩⟩
    rw [el, eh]
    have hlo : lo ∈ pl := by rcases hc with ⟨a, _⟩ | ⟨a, _⟩ <;> rw [a] <;> exact M.inn _ (by assumption)
    have hhi : hi ∈ pl := by rcases hc with ⟨_, a⟩ | ⟨_, a⟩ <;> rw [a] <;> exact M.inn _ (by assumption)
    have c12 : Cn en (A ++ [t]) (en t).1 (en t).2 := .fwd ht .refl
    have clh : Cn en (A ++ [t]) lo hi := by
      rcases hc with ⟨a, b⟩ | ⟨a, b⟩
      · rw [a, b]; exact ((up (M.cn _ e1)).symm.trans c12).trans (up (M.cn _ e2))
      · rw [a, b]; exact ((up (M.cn _ e2)).symm.trans c12.symm).trans (up (M.cn _ e1))
    have ne : lo ≠ hi := fun z => slt_irrefl hi (z ▸ hlt)
    -- a place's own label is the label of the label
    refine ⟨fun p hp => ?_, fun p hp => ?_, fun p q hp hq => ?_, fun p hp => ?_⟩
    · show (if f p = hi then lo else f p) ∈ pl
      by_cases z : f p = hi
      · rw [if_pos z]; exact hlo
      · rw [if_neg z]; exact M.inn p hp
    · show Cn en (A ++ [t]) p (if f p = hi then lo else f p)
      by_cases z : f p = hi
      · rw [if_pos z]; exact (z ▸ up (M.cn p hp)).trans clh.symm
      · rw [if_neg z]; exact up (M.cn p hp)
    · show (if f p = hi then lo else f p) = (if f q = hi then lo else f q) ↔ _
      have hu : ∀ x, x ∈ pl → (Cn en A x (en t).1 ↔ f x = f (en t).1) := fun x hx => (M.eq x _ hx e1).symm
      have hv : ∀ x, x ∈ pl → (Cn en A x (en t).2 ↔ f x = f (en t).2) := fun x hx => (M.eq x _ hx e2).symm
      have hu' : ∀ x, x ∈ pl → (Cn en A (en t).1 x ↔ f x = f (en t).1) := fun x hx => ⟨fun a => (hu x hx).mp a.symm, fun a => ((hu x hx).mpr a).symm⟩
      have hv' : ∀ x, x ∈ pl → (Cn en A (en t).2 x ↔ f x = f (en t).2) := fun x hx => ⟨fun a => (hv x hx).mp a.symm, fun a => ((hv x hx).mpr a).symm⟩
      rw [cn_snoc, ← M.eq p q hp hq, hu p hp, hv' q hq, hv p hp, hu' q hq]
      rcases hc with ⟨a, b⟩ | ⟨a, b⟩ <;> rw [← a, ← b] <;> by_cases z1 : f p = hi <;> by_cases z2 : f q = hi <;> simp only [z1, z2, if_true, if_false, true_and, and_true, and_false, false_and, or_false, false_or, or_true, true_or, iff_true, iff_false] <;> grind
    · show ¬ slt p (if f p = hi then lo else f p)
      by_cases z : f p = hi
      · rw [if_pos z]
        intro w
        exact M.low p hp (z ▸ slt_trans w hlt)
      · rw [if_neg z]; exact M.low p hp
theorem mk_marks (ei : ∀ t, t ∈ nm → (en t).1 ∈ pl ∧ (en t).2 ∈ pl) : ∀ (B A : List Str) (f : Str → Str), (∀ t, t ∈ B → t ∈ nm) → Mk en pl A f → Mk en pl (A ++ B) (B.foldl (mstep en) f)
  | [], A, f, _, M => by rw [List.append_nil]; exact M
  | t :: B, A, f, s, M => by
    have h := s t List.mem_cons_self
    have := mk_marks ei B (A ++ [t]) (mstep en f t) (fun x hx => s x (List.mem_cons_of_mem _ hx)) (mk_step (ei t h).1 (ei t h).2 M)
    rw [List.append_assoc] at this
    exact this
theorem marks_mk (ei : ∀ t, t ∈ nm → (en t).1 ∈ pl ∧ (en t).2 ∈ pl) (s : ∀ t, t ∈ A → t ∈ nm) : Mk en pl A (marks en A) := by
  have := mk_marks ei A [] id s mk_start
  exact this
/-- two such tell the same -/
theorem Mk.unique {B : List Str} {f g : Str → Str} (M : Mk en pl A f) (N : Mk en pl B g) (h : ∀ p q, p ∈ pl → q ∈ pl → (Cn en A p q ↔ Cn en B p q)) : ∀ p, p ∈ pl → f p = g p := fun p hp => by
  have fi := M.inn p hp
  have gi := N.inn p hp
  -- the label of f p by g is g p; of g p by f is f p
  have e1 : g (f p) = g p := (N.eq _ _ fi hp).mpr ((h _ _ fi hp).mp (M.cn p hp).symm)
  have e2 : f (g p) = f p := (M.eq _ _ gi hp).mpr ((h _ _ gi hp).mpr (N.cn p hp).symm)
  have l1 := N.low _ fi
  have l2 := M.low _ gi
  rw [e1] at l1
  rw [e2] at l2
  rcases slt_tri (f p) (g p) with a | a | a
  · exact absurd a l1
  · exact a
  · exact absurd a l2
end
/-- the rank of a web, of any list -/
def gRk (pl : List Str) (en : Str → Str × Str) (nm A : List Str) : Nat := webRk pl en (A.filter fun t => decide (t ∈ nm))
section
variable {en : Str → Str × Str} {pl nm : List Str}
theorem webRk_eq {A B : List Str} (ei : ∀ t, t ∈ nm → (en t).1 ∈ pl ∧ (en t).2 ∈ pl) (sA : ∀ t, t ∈ A → t ∈ nm) (sB : ∀ t, t ∈ B → t ∈ nm) (h : ∀ p q, p ∈ pl → q ∈ pl → (Cn en A p q ↔ Cn en B p q)) : webRk pl en A = webRk pl en B := by
  unfold webRk
  congr 1
  refine List.filter_congr fun p hp => ?_
  rw [(marks_mk ei sA).unique (marks_mk ei sB) h p hp]
theorem webRk_ext {A B : List Str} (ei : ∀ t, t ∈ nm → (en t).1 ∈ pl ∧ (en t).2 ∈ pl) (sA : ∀ t, t ∈ A → t ∈ nm) (h : ∀ t, t ∈ A ↔ t ∈ B) : webRk pl en A = webRk pl en B :=
  webRk_eq ei sA (fun t ht => sA t ((h t).mpr ht)) fun p q _ _ => ⟨fun c => c.mono fun t ht => (h t).mp ht, fun c => c.mono fun t ht => (h t).mpr ht⟩
theorem filter_flip {l : List Str} (nd : l.Nodup) {h : Str} (hh : h ∈ l) {P Q : Str → Bool} (e : ∀ p, p ∈ l → p ≠ h → P p = Q p) (h1 : P h = false) (h2 : Q h = true) : (l.filter Q).length = (l.filter P).length + 1 := by
  induction l with
  | nil => cases hh
  | cons a l ih =>
    have nd' := List.nodup_cons.mp nd
    by_cases z : a = h
    · subst z
      have : l.filter Q = l.filter P := List.filter_congr fun p hp => (e p (List.mem_cons_of_mem _ hp) (fun q => nd'.1 (q ▸ hp))).symm
      rw [List.filter_cons, if_pos h2, List.filter_cons, if_neg (by rw [h1]; exact Bool.false_ne_true), this]; rfl
    · have hh' : h ∈ l := (List.mem_cons.mp hh).resolve_left fun q => z q.symm
      have := ih nd'.2 hh' fun p hp => e p (List.mem_cons_of_mem _ hp)
      rw [List.filter_cons, List.filter_cons, e a List.mem_cons_self z]
      split
      · rw [List.length_cons, List.length_cons, this]
      · exact this
/-- one tie more: it joins two pieces, or none -/
theorem webRk_snoc {A : List Str} {t : Str} (np : pl.Nodup) (ei : ∀ t, t ∈ nm → (en t).1 ∈ pl ∧ (en t).2 ∈ pl) (sA : ∀ x, x ∈ A → x ∈ nm) (ht : t ∈ nm) :
    (Cn en A (en t).1 (en t).2 → webRk pl en (A ++ [t]) = webRk pl en A) ∧ (¬ Cn en A (en t).1 (en t).2 → webRk pl en (A ++ [t]) = webRk pl en A + 1) := by
  obtain ⟨e1, e2⟩ := ei t ht
  have M := marks_mk ei sA
  have eS : marks en (A ++ [t]) = mstep en (marks en A) t := by unfold marks; rw [List.foldl_append]; rfl
  generalize hf : marks en A = f at M eS
  constructor
  · intro h
    have hfe := (M.eq _ _ e1 e2).mpr h
    unfold webRk
    rw [eS, hf]
    unfold mstep
    rw [if_pos hfe]
  · intro h
    have hfe : ¬ f (en t).1 = f (en t).2 := fun z => h ((M.eq _ _ e1 e2).mp z)
    unfold webRk
    rw [eS, hf]
    unfold mstep
    rw [if_neg hfe]
    obtain ⟨lo, hi, el, eh, hlt, hhi, hff⟩ : ∃ lo hi, (if slt (f (en t).2) (f (en t).1) then f (en t).2 else f (en t).1) = lo ∧ (if slt (f (en t).1) (f (en t).2) then f (en t).2 else f (en t).1) = hi ∧ slt lo hi ∧ hi ∈ pl ∧ f hi = hi := by
      have idem : ∀ p, p ∈ pl → f (f p) = f p := fun p hp => (M.eq _ _ (M.inn p hp) hp).mpr (M.cn p hp).symm
      rcases slt_tri (f (en t).1) (f (en t).2) with a | a | a
      · exact ⟨_, _, if_neg (slt_asymm a), if_pos a, a, M.inn _ e2, idem _ e2⟩
      · exact absurd a hfe
      · exact ⟨_, _, if_pos a, if_neg (slt_asymm a), a, M.inn _ e1, idem _ e1⟩
    rw [el, eh]
    have ne : lo ≠ hi := fun z => slt_irrefl hi (z ▸ hlt)
    refine filter_flip np hhi (fun p hp hne => ?_) ?_ ?_
    · show decide (f p ≠ p) = decide ((if f p = hi then lo else f p) ≠ p)
      by_cases z : f p = hi
      · rw [if_pos z]
        have a1 : f p ≠ p := fun q => hne (q.symm.trans z)
        have a2 : lo ≠ p := fun q => by
          have := M.low p hp
          rw [z, ← q] at this
          exact this hlt
        rw [decide_eq_true a1, decide_eq_true a2]
      · rw [if_neg z]
    · rw [hff]; simp
    · show decide ((if f hi = hi then lo else f hi) ≠ hi) = true
      rw [if_pos hff, decide_eq_true ne]
theorem gRk_cons {A : List Str} {t : Str} (np : pl.Nodup) (ei : ∀ t, t ∈ nm → (en t).1 ∈ pl ∧ (en t).2 ∈ pl) : (t ∉ nm → gRk pl en nm (t :: A) = gRk pl en nm A) ∧
    (t ∈ nm → (Cn en (A.filter fun t => decide (t ∈ nm)) (en t).1 (en t).2 → gRk pl en nm (t :: A) = gRk pl en nm A) ∧ (¬ Cn en (A.filter fun t => decide (t ∈ nm)) (en t).1 (en t).2 → gRk pl en nm (t :: A) = gRk pl en nm A + 1)) := by
  have sA : ∀ x, x ∈ A.filter (fun t => decide (t ∈ nm)) → x ∈ nm := fun x hx => of_decide_eq_true (List.mem_filter.mp hx).2
  constructor
  · intro h
    unfold gRk
    rw [List.filter_cons, if_neg (by simpa using h)]
  · intro h
    have e : gRk pl en nm (t :: A) = webRk pl en (A.filter (fun t => decide (t ∈ nm)) ++ [t]) := by
      unfold gRk
      rw [List.filter_cons, if_pos (by simpa using h)]
      refine webRk_ext ei (fun x hx => (List.mem_cons.mp hx).elim (fun q => q ▸ h) (sA x)) fun x => ?_
      rw [List.mem_cons, List.mem_append, List.mem_singleton]
      exact Or.comm
    rw [e]
    exact webRk_snoc np ei sA h
theorem gRk_rk (np : pl.Nodup) (ei : ∀ t, t ∈ nm → (en t).1 ∈ pl ∧ (en t).2 ∈ pl) : IsRk (gRk pl en nm) where
  nil := by
    unfold gRk webRk marks
    rw [List.filter_nil]
    show (pl.filter fun p => decide (id p ≠ p)).length = 0
    rw [List.length_eq_zero_iff, List.filter_eq_nil_iff]
    intro p _
    simp
  ext := fun A B h => by
    refine webRk_ext ei (fun x hx => of_decide_eq_true (List.mem_filter.mp hx).2) fun x => ?_
    rw [List.mem_filter, List.mem_filter, h x]
  le1 := fun x A => by
    obtain ⟨a, b⟩ := gRk_cons (A := A) (t := x) np ei
    by_cases h : x ∈ nm
    · by_cases c : Cn en (A.filter fun t => decide (t ∈ nm)) (en x).1 (en x).2
      · rw [(b h).1 c]; omega
      · rw [(b h).2 c]; omega
    · rw [a h]; omega
  ge := fun x A => by
    obtain ⟨a, b⟩ := gRk_cons (A := A) (t := x) np ei
    by_cases h : x ∈ nm
    · by_cases c : Cn en (A.filter fun t => decide (t ∈ nm)) (en x).1 (en x).2
      · rw [(b h).1 c]; omega
      · rw [(b h).2 c]; omega
    · rw [a h]; omega
  loc := fun x y A hx hy => by
    obtain ⟨a, b⟩ := gRk_cons (A := y :: A) (t := x) np ei
    obtain ⟨a', b'⟩ := gRk_cons (A := A) (t := x) np ei
    by_cases h : x ∈ nm
    · have c : Cn en (A.filter fun t => decide (t ∈ nm)) (en x).1 (en x).2 := Classical.byContradiction fun z => by
        have := (b' h).2 z; omega
      rw [(b h).1 (c.mono fun t ht => by
        rw [List.mem_filter] at ht ⊢
        exact ⟨List.mem_cons_of_mem _ ht.1, ht.2⟩), hy]
    · rw [a h, hy]
theorem gRk_lot {A : List Str} (s : ∀ x, x ∈ A → x ∈ nm) : gRk pl en nm A = webRk pl en A := by
  unfold gRk
  rw [List.filter_eq_self.mpr fun x hx => decide_eq_true (s x hx)]
/-- all places but one are not their own least place just if there is one piece -/
theorem webRk_full {A : List Str} (np : pl.Nodup) (ei : ∀ t, t ∈ nm → (en t).1 ∈ pl ∧ (en t).2 ∈ pl) (sA : ∀ x, x ∈ A → x ∈ nm) {root : Str} (hr : root ∈ pl) : webRk pl en A + 1 = pl.length ↔ ∀ p, p ∈ pl → Cn en A root p := by
  have M := marks_mk ei sA
  unfold webRk
  generalize marks en A = f at M
  have idem : ∀ p, p ∈ pl → f (f p) = f p := fun p hp => (M.eq _ _ (M.inn p hp) hp).mpr (M.cn p hp).symm
  have hsum : (pl.filter fun p => decide (f p ≠ p)).length + (pl.filter fun p => decide (f p = p)).length = pl.length := by
    clear M idem hr np ei sA
    induction pl with
    | nil => rfl
    | cons a l ih =>
      rw [List.filter_cons, List.filter_cons]
      by_cases h : f a = a
      · rw [if_neg (by simp [h]), if_pos (by simp [h]), List.length_cons, List.length_cons]; omega
      · rw [if_pos (by simp [h]), if_neg (by simp [h]), List.length_cons, List.length_cons]; omega
  constructor
  · intro h p hp
    have h1 : (pl.filter fun p => decide (f p = p)).length = 1 := by omega
    have fix : ∀ q, q ∈ pl → f q ∈ pl.filter fun p => decide (f p = p) := fun q hq => List.mem_filter.mpr ⟨M.inn q hq, decide_eq_true (idem q hq)⟩
    obtain ⟨z, hz⟩ := List.length_eq_one_iff.mp h1
    have e1 := fix root hr
    have e2 := fix p hp
    rw [hz] at e1 e2
    exact (M.eq root p hr hp).mp ((List.mem_singleton.mp e1).trans (List.mem_singleton.mp e2).symm)
  · intro h
    have h1 : (pl.filter fun p => decide (f p = p)) = [f root] ∨ (pl.filter fun p => decide (f p = p)).length = 1 := by
      right
      refine Nat.le_antisymm ?_ ?_
      · have : (pl.filter fun p => decide (f p = p)).length ≤ [f root].length := nodup_le (np.filter _) fun x hx => by
          obtain ⟨x1, x2⟩ := List.mem_filter.mp hx
          have := (M.eq root x hr x1).mpr (h x x1)
          rw [List.mem_singleton, this]
          exact (of_decide_eq_true x2).symm
        exact this
      · have hm : f root ∈ pl.filter fun p => decide (f p = p) := List.mem_filter.mpr ⟨M.inn root hr, decide_eq_true (idem root hr)⟩
        exact List.length_pos_of_mem hm
    rcases h1 with h1 | h1
    · rw [h1] at hsum; simp only [List.length_singleton] at hsum; omega
    · omega
end
end Bm
set_option Elab.async false
set_option maxHeartbeats 4000000
set_option linter.all false
/-! heads, and trees as common lots -/
namespace Bm
open PySem PySem.Spec PyProof.Rows Bs Bf
/-- one is covered, and not shorter: each once -/
theorem nodup_cover {α : Type} [DecidableEq α] : ∀ {M P : List α}, P.Nodup → (∀ x, x ∈ P → x ∈ M) → M.length ≤ P.length → M.Nodup ∧ ∀ x, x ∈ M → x ∈ P
  | [], P, _, _, _ => ⟨List.nodup_nil, fun x hx => by cases hx⟩
  | a :: M, P, nP, h, l => by
    rw [List.length_cons] at l
    have h1 : a ∈ P := Classical.byContradiction fun z => by
      have := nodup_le (B := M) nP fun x hx => (List.mem_cons.mp (h x hx)).resolve_left fun e => z (e ▸ hx)
      omega
    have h2 : a ∉ M := fun z => by
      have := nodup_le (B := M) nP fun x hx => (List.mem_cons.mp (h x hx)).elim (fun e => e ▸ z) id
      omega
    have hl := List.length_erase_of_mem h1
    obtain ⟨i1, i2⟩ := nodup_cover (M := M) (P := P.erase a) (nP.erase a) (fun x hx => by
      obtain ⟨q1, q2⟩ := (List.Nodup.mem_erase_iff nP).mp hx
      exact (List.mem_cons.mp (h x q2)).resolve_left q1) (by omega)
    exact ⟨List.nodup_cons.mpr ⟨h2, i1⟩, fun x hx => (List.mem_cons.mp hx).elim (fun e => e ▸ h1) fun e => List.mem_of_mem_erase (i2 x e)⟩
section
variable (pl : List Str) (en : Str → Str × Str) (nm : List Str) (root : Str)
/-- the places into which arcs of a list lead, but the root -/
def hds (A : List Str) : List Str := pl.filter fun p => decide (p ≠ root) && A.any fun t => decide (t ∈ nm) && decide ((en t).2 = p)
def hRk (A : List Str) : Nat := (hds pl en nm root A).length
/-- an arc that leads into a new place -/
def NewH (A : List Str) (t : Str) : Prop := t ∈ nm ∧ (en t).2 ≠ root ∧ ∀ s, s ∈ A → s ∈ nm → (en s).2 ≠ (en t).2
end
section
variable {pl : List Str} {en : Str → Str × Str} {nm : List Str} {root : Str}
theorem mem_hds {A : List Str} {p : Str} : p ∈ hds pl en nm root A ↔ p ∈ pl ∧ p ≠ root ∧ ∃ t, t ∈ A ∧ t ∈ nm ∧ (en t).2 = p := by
  unfold hds
  rw [List.mem_filter, Bool.and_eq_true, decide_eq_true_iff, List.any_eq_true]
  refine and_congr_right fun _ => and_congr_right fun _ => exists_congr fun t => and_congr_right fun _ => ?_
  rw [Bool.and_eq_true, decide_eq_true_iff, decide_eq_true_iff]
theorem hds_nd (np : pl.Nodup) (A : List Str) : (hds pl en nm root A).Nodup := np.filter _
theorem hRk_cons (np : pl.Nodup) (ei : ∀ t, t ∈ nm → (en t).1 ∈ pl ∧ (en t).2 ∈ pl) (A : List Str) (t : Str) : (NewH en nm root A t → hRk pl en nm root (t :: A) = hRk pl en nm root A + 1) ∧ (¬ NewH en nm root A t → hRk pl en nm root (t :: A) = hRk pl en nm root A) := by
  constructor
  · rintro ⟨h1, h2, h3⟩
    have hn : (en t).2 ∉ hds pl en nm root A := fun hp => by
      obtain ⟨_, _, s, s1, s2, s3⟩ := mem_hds.mp hp
      exact h3 s s1 s2 s3
    have e : (hds pl en nm root (t :: A)).length = ((en t).2 :: hds pl en nm root A).length := by
      refine nodup_len_eq (hds_nd np _) (List.nodup_cons.mpr ⟨hn, hds_nd np _⟩) fun p => ?_
      rw [List.mem_cons, mem_hds, mem_hds]
      constructor
      · rintro ⟨a, b, s, s1, s2, s3⟩
        rcases List.mem_cons.mp s1 with z | z
        · left; rw [← s3, z]
        · exact .inr ⟨a, b, s, z, s2, s3⟩
      · rintro (z | ⟨a, b, s, s1, s2, s3⟩)
        · rw [z]; exact ⟨(ei t h1).2, h2, t, List.mem_cons_self, h1, rfl⟩
        · exact ⟨a, b, s, List.mem_cons_of_mem _ s1, s2, s3⟩
    unfold hRk
    rw [e]; rfl
  · intro hnew
    unfold hRk
    refine nodup_len_eq (hds_nd np _) (hds_nd np _) fun p => ?_
    rw [mem_hds, mem_hds]
    constructor
    · rintro ⟨a, b, s, s1, s2, s3⟩
      rcases List.mem_cons.mp s1 with z | z
      · subst z
        refine ⟨a, b, Classical.byContradiction fun hno => hnew ⟨s2, s3 ▸ b, fun x x1 x2 x3 => hno ⟨x, x1, x2, x3.trans s3⟩⟩⟩
      · exact ⟨a, b, s, z, s2, s3⟩
    · rintro ⟨a, b, s, s1, s2, s3⟩
      exact ⟨a, b, s, List.mem_cons_of_mem _ s1, s2, s3⟩
theorem hRk_rk (np : pl.Nodup) (ei : ∀ t, t ∈ nm → (en t).1 ∈ pl ∧ (en t).2 ∈ pl) : IsRk (hRk pl en nm root) where
  nil := by
    unfold hRk
    rw [List.length_eq_zero_iff, List.eq_nil_iff_forall_not_mem]
    intro p hp
    obtain ⟨_, _, s, s1, _⟩ := mem_hds.mp hp
    cases s1
  ext := fun A B h => nodup_len_eq (hds_nd np _) (hds_nd np _) fun p => by
    rw [mem_hds, mem_hds]
    refine and_congr_right fun _ => and_congr_right fun _ => exists_congr fun t => and_congr_left fun _ => h t
  le1 := fun x A => by
    obtain ⟨a, b⟩ := hRk_cons (root := root) np ei A x
    by_cases h : NewH en nm root A x
    · rw [a h]; omega
    · rw [b h]; omega
  ge := fun x A => by
    obtain ⟨a, b⟩ := hRk_cons (root := root) np ei A x
    by_cases h : NewH en nm root A x
    · rw [a h]; omega
    · rw [b h]; omega
  loc := fun x y A hx hy => by
    obtain ⟨a, b⟩ := hRk_cons (root := root) np ei A x
    obtain ⟨_, b'⟩ := hRk_cons (root := root) np ei (y :: A) x
    have hn : ¬ NewH en nm root A x := fun z => by have := a z; omega
    rw [b' fun ⟨h1, h2, h3⟩ => hn ⟨h1, h2, fun s hs => h3 s (List.mem_cons_of_mem _ hs)⟩, hy]
/-! ### the rooms reckon the same -/
theorem over_snoc {F : List Str} {t : Str} (sF : ∀ s, s ∈ F → s ∈ nm) (nd : (F.map fun s => (en s).2).Nodup) (hroot : ∀ s, s ∈ F → (en s).2 ≠ root) (ht : t ∈ nm) (hp : (en t).2 ∈ pl) :
    over (Bw.roomsOf en nm root pl) (F ++ [t]) = true ↔ (en t).2 = root ∨ ∃ s, s ∈ F ∧ (en s).2 = (en t).2 := by
  have cnt1 : ∀ p, (F.filter fun x => decide (x ∈ into en nm p)).length ≤ 1 := fun p => by
    have h1 : ((F.filter fun x => decide (x ∈ into en nm p)).map fun s => (en s).2).length ≤ [p].length := nodup_le (List.Pairwise.sublist (List.Sublist.map _ (List.filter_sublist)) nd) fun x hx => by
      obtain ⟨s, hs, rfl⟩ := List.mem_map.mp hx
      rw [List.mem_singleton]
      exact (mem_into.mp (of_decide_eq_true (List.mem_filter.mp hs).2)).2
    rw [List.length_map] at h1
    exact h1
  unfold over
  rw [List.any_eq_true]
  constructor
  · rintro ⟨q, hq, hlt⟩
    unfold Bw.roomsOf at hq
    obtain ⟨p, hpp, rfl⟩ := List.mem_map.mp hq
    have hlt' : (if p = root then (0 : Int) else 1) < (((F ++ [t]).filter fun x => decide (x ∈ into en nm p)).length : Int) := of_decide_eq_true hlt
    rw [List.filter_append, List.length_append] at hlt'
    have c1 := cnt1 p
    by_cases htp : (en t).2 = p
    · by_cases hpr : p = root
      · exact .inl (htp.trans hpr)
      · rw [if_neg hpr] at hlt'
        have h1 : ([t].filter fun x => decide (x ∈ into en nm p)).length ≤ 1 := List.length_filter_le _ _
        have h2 : 0 < (F.filter fun x => decide (x ∈ into en nm p)).length := by omega
        obtain ⟨s, hs⟩ := List.exists_mem_of_length_pos h2
        obtain ⟨s1, s2⟩ := List.mem_filter.mp hs
        exact .inr ⟨s, s1, (mem_into.mp (of_decide_eq_true s2)).2.trans htp.symm⟩
    · have h1 : ([t].filter fun x => decide (x ∈ into en nm p)) = [] := by
        rw [List.filter_eq_nil_iff]
        intro x hx
        rw [List.mem_singleton.mp hx]
        intro z
        exact htp (mem_into.mp (of_decide_eq_true z)).2
      rw [h1, List.length_nil] at hlt'
      by_cases hpr : p = root
      · rw [if_pos hpr] at hlt'
        have h2 : 0 < (F.filter fun x => decide (x ∈ into en nm p)).length := by omega
        obtain ⟨s, hs⟩ := List.exists_mem_of_length_pos h2
        obtain ⟨s1, s2⟩ := List.mem_filter.mp hs
        exact absurd ((mem_into.mp (of_decide_eq_true s2)).2.trans hpr) (hroot s s1)
      · rw [if_neg hpr] at hlt'
        omega
  · intro h
    refine ⟨(into en nm (en t).2, if (en t).2 = root then 0 else 1), List.mem_map.mpr ⟨_, hp, rfl⟩, decide_eq_true ?_⟩
    show (if (en t).2 = root then (0 : Int) else 1) < (((F ++ [t]).filter fun x => decide (x ∈ into en nm (en t).2)).length : Int)
    have h1 : ([t].filter fun x => decide (x ∈ into en nm (en t).2)) = [t] := by
      rw [List.filter_eq_self]
      intro x hx
      rw [List.mem_singleton.mp hx]
      exact decide_eq_true (mem_into.mpr ⟨ht, rfl⟩)
    rw [List.filter_append, List.length_append, h1, List.length_singleton]
    by_cases hr : (en t).2 = root
    · rw [if_pos hr]; omega
    · rw [if_neg hr]
      obtain ⟨s, s1, s2⟩ := h.resolve_left hr
      have : 0 < (F.filter fun x => decide (x ∈ into en nm (en t).2)).length := List.length_pos_of_mem (List.mem_filter.mpr ⟨s1, decide_eq_true (mem_into.mpr ⟨sF s s1, s2⟩)⟩)
      omega
theorem cntRk_hRk (np : pl.Nodup) (ei : ∀ t, t ∈ nm → (en t).1 ∈ pl ∧ (en t).2 ∈ pl) {A : List Str} (sA : ∀ t, t ∈ A → t ∈ nm) : cntRk (Bw.roomsOf en nm root pl) A = hRk pl en nm root A := by
  have inv : ∀ (B F C : List Str), (∀ t, t ∈ B → t ∈ nm) → (∀ s, s ∈ F → s ∈ nm) → (∀ s, s ∈ C → s ∈ nm) → (F.map fun s => (en s).2).Nodup → (∀ s, s ∈ F → (en s).2 ≠ root) → (∀ p, (∃ s, s ∈ F ∧ (en s).2 = p) ↔ p ≠ root ∧ ∃ s, s ∈ C ∧ (en s).2 = p) →
      (B.foldl (cstep (Bw.roomsOf en nm root pl)) F).length = hRk pl en nm root (C ++ B) := by
    intro B
    induction B with
    | nil =>
      intro F C _ sF sC nd hr heq
      rw [List.append_nil]
      unfold hRk
      show F.length = _
      rw [← List.length_map (f := fun s => (en s).2)]
      refine nodup_len_eq nd (hds_nd np _) fun p => ?_
      rw [List.mem_map, mem_hds, heq p]
      constructor
      · rintro ⟨a, s, s1, s2⟩
        exact ⟨s2 ▸ (ei s (sC s s1)).2, a, s, s1, sC s s1, s2⟩
      · rintro ⟨_, a, s, s1, _, s2⟩
        exact ⟨a, s, s1, s2⟩
    | cons t B ih =>
      intro F C sB sF sC nd hr heq
      have ht := sB t List.mem_cons_self
      have sB' := fun x hx => sB x (List.mem_cons_of_mem _ hx)
      have sC' : ∀ s, s ∈ C ++ [t] → s ∈ nm := fun s hs => (List.mem_append.mp hs).elim (sC s) fun z => List.mem_singleton.mp z ▸ ht
      rw [List.foldl_cons, show C ++ t :: B = (C ++ [t]) ++ B from by rw [List.append_assoc]; rfl]
      have ho := over_snoc (root := root) (pl := pl) sF nd hr ht (ei t ht).2
      unfold cstep
      by_cases hov : over (Bw.roomsOf en nm root pl) (F ++ [t]) = true
      · rw [if_pos hov]
        refine ih F (C ++ [t]) sB' sF sC' nd hr fun p => ?_
        rw [heq p]
        refine and_congr_right fun hp => ?_
        constructor
        · rintro ⟨s, s1, s2⟩; exact ⟨s, List.mem_append.mpr (.inl s1), s2⟩
        · rintro ⟨s, s1, s2⟩
          rcases List.mem_append.mp s1 with z | z
          · exact ⟨s, z, s2⟩
          · rw [List.mem_singleton.mp z] at s2
            rcases ho.mp hov with q | ⟨s', a, b⟩
            · exact absurd (s2.symm.trans q) hp
            · exact ((heq p).mp ⟨s', a, b.trans s2⟩).2
      · rw [if_neg hov]
        have hno : (en t).2 ≠ root ∧ ∀ s, s ∈ F → (en s).2 ≠ (en t).2 := ⟨fun z => hov (ho.mpr (.inl z)), fun s hs z => hov (ho.mpr (.inr ⟨s, hs, z⟩))⟩
        refine ih (F ++ [t]) (C ++ [t]) sB' (fun s hs => (List.mem_append.mp hs).elim (sF s) fun z => List.mem_singleton.mp z ▸ ht) sC' ?_ (fun s hs => (List.mem_append.mp hs).elim (hr s) fun z => List.mem_singleton.mp z ▸ hno.1) fun p => ?_
        · rw [List.map_append, List.nodup_append]
          refine ⟨nd, by simp, fun a ha b hb e => ?_⟩
          obtain ⟨s, hs, rfl⟩ := List.mem_map.mp ha
          have : b = (en t).2 := by simpa using hb
          exact hno.2 s hs (e.trans this)
        · constructor
          · rintro ⟨s, s1, s2⟩
            rcases List.mem_append.mp s1 with z | z
            · obtain ⟨a, s', b, c⟩ := (heq p).mp ⟨s, z, s2⟩
              exact ⟨a, s', List.mem_append.mpr (.inl b), c⟩
            · rw [List.mem_singleton.mp z] at s2
              exact ⟨s2 ▸ hno.1, t, List.mem_append.mpr (.inr (List.mem_singleton.mpr rfl)), s2⟩
          · rintro ⟨a, s, s1, s2⟩
            rcases List.mem_append.mp s1 with z | z
            · obtain ⟨s', b, c⟩ := (heq p).mpr ⟨a, s, z, s2⟩
              exact ⟨s', List.mem_append.mpr (.inl b), c⟩
            · rw [List.mem_singleton.mp z] at s2
              exact ⟨t, List.mem_append.mpr (.inr (List.mem_singleton.mpr rfl)), s2⟩
  have := inv A [] [] sA (fun s hs => by cases hs) (fun s hs => by cases hs) List.nodup_nil (fun s hs => by cases hs) fun p => ⟨fun ⟨s, hs, _⟩ => (by cases hs), fun ⟨_, s, hs, _⟩ => (by cases hs)⟩
  exact this
/-! ### trees -/
theorem Rch.mono {L M : List Str} {x : Str} (h : Rch en L root x) (s : ∀ t, t ∈ L → t ∈ M) : Rch en M root x := by
  induction h with
  | base => exact .base
  | step ht _ ih => exact .step (s _ ht) ih
theorem Rch.cn {L : List Str} {x : Str} (h : Rch en L root x) : Cn en L root x := by
  induction h with
  | base => exact .refl
  | step ht _ ih => exact .fwd ht ih
theorem cn_enS {A : List Str} {p q : Str} : Cn (Bw.enS en) A p q ↔ Cn en A p q := by
  have e : ∀ t, ((Bw.enS en t).1 = (en t).1 ∧ (Bw.enS en t).2 = (en t).2) ∨ ((Bw.enS en t).1 = (en t).2 ∧ (Bw.enS en t).2 = (en t).1) := fun t => by
    unfold Bw.enS
    split
    · exact .inr ⟨rfl, rfl⟩
    · exact .inl ⟨rfl, rfl⟩
  constructor
  · intro h
    induction h with
    | refl => exact .refl
    | @fwd t ht _ ih =>
      rcases e t with ⟨a, b⟩ | ⟨a, b⟩
      · rw [a] at ih; rw [b]; exact .fwd ht ih
      · rw [a] at ih; rw [b]; exact .bwd ht ih
    | @bwd t ht _ ih =>
      rcases e t with ⟨a, b⟩ | ⟨a, b⟩
      · rw [b] at ih; rw [a]; exact .bwd ht ih
      · rw [b] at ih; rw [a]; exact .fwd ht ih
  · intro h
    induction h with
    | refl => exact .refl
    | @fwd t ht _ ih =>
      rcases e t with ⟨a, b⟩ | ⟨a, b⟩
      · rw [← a] at ih; rw [← b]; exact .fwd ht ih
      · rw [← b] at ih; rw [← a]; exact .bwd ht ih
    | @bwd t ht _ ih =>
      rcases e t with ⟨a, b⟩ | ⟨a, b⟩
      · rw [← b] at ih; rw [← a]; exact .bwd ht ih
      · rw [← a] at ih; rw [← b]; exact .fwd ht ih
theorem nonroot_len (np : pl.Nodup) (hr : root ∈ pl) : (pl.filter fun p => decide (p ≠ root)).length + 1 = pl.length := by
  have := rem_len_mem np hr
  have e : (pl.filter fun p => decide (p ≠ root)) = rem pl [root] := List.filter_congr fun p _ => by simp
  rw [e]; exact this
/-- a lot with one arc into each place, in the places' order -/
theorem arr (np : pl.Nodup) {A : List Str} (sA : ∀ t, t ∈ A → t ∈ nm) (ndA : A.Nodup) (nd : (A.map fun s => (en s).2).Nodup) (hh : ∀ p, (∃ s, s ∈ A ∧ (en s).2 = p) ↔ p ∈ pl ∧ p ≠ root) : ∃ L, L ∈ prodL en nm root pl ∧ L.Perm A := by
  let pick : Str → Str := fun p => (A.find? fun t => decide ((en t).2 = p)).getD ""
  have hpick : ∀ p, p ∈ pl → p ≠ root → pick p ∈ A ∧ (en (pick p)).2 = p := fun p h1 h2 => by
    obtain ⟨s, s1, s2⟩ := (hh p).mpr ⟨h1, h2⟩
    show (A.find? fun t => decide ((en t).2 = p)).getD "" ∈ A ∧ (en ((A.find? fun t => decide ((en t).2 = p)).getD "")).2 = p
    cases e : A.find? fun t => decide ((en t).2 = p) with
    | none => exact absurd (decide_eq_true s2) (List.find?_eq_none.mp e s s1)
    | some t =>
      have e2 : decide ((en t).2 = p) = true := List.find?_some (p := fun t => decide ((en t).2 = p)) e
      exact ⟨List.mem_of_find?_eq_some e, of_decide_eq_true e2⟩
  have hL : ((pl.filter fun p => decide (p ≠ root)).map pick).map (fun t => (en t).2) = pl.filter fun p => decide (p ≠ root) := by
    rw [List.map_map]
    have : ∀ p, p ∈ pl.filter (fun p => decide (p ≠ root)) → ((fun t => (en t).2) ∘ pick) p = id p := fun p hp => by
      obtain ⟨a, b⟩ := List.mem_filter.mp hp
      exact (hpick p a (of_decide_eq_true b)).2
    rw [List.map_congr_left this, List.map_id]
  have sL : ∀ t, t ∈ (pl.filter fun p => decide (p ≠ root)).map pick → t ∈ A := fun t ht => by
    obtain ⟨p, hp, rfl⟩ := List.mem_map.mp ht
    obtain ⟨a, b⟩ := List.mem_filter.mp hp
    exact (hpick p a (of_decide_eq_true b)).1
  have mL : (pl.filter fun p => decide (p ≠ root)).map pick ∈ prodL en nm root pl := mem_prodL.mpr ⟨hL, fun t ht => sA t (sL t ht)⟩
  have ndL := prod_nd np mL
  have len : A.length ≤ ((pl.filter fun p => decide (p ≠ root)).map pick).length := by
    rw [List.length_map, ← List.length_map (as := A) (f := fun s => (en s).2)]
    refine nodup_le nd fun p hp => ?_
    obtain ⟨s, s1, s2⟩ := List.mem_map.mp hp
    obtain ⟨a, b⟩ := (hh p).mp ⟨s, s1, s2⟩
    exact List.mem_filter.mpr ⟨a, decide_eq_true b⟩
  exact ⟨_, mL, (List.perm_ext_iff_of_nodup ndL ndA).mpr fun x => ⟨sL x, nodup_full ndL sL len x⟩⟩
/-- trees are common lots -/
theorem tree_ind (np : pl.Nodup) (ei : ∀ t, t ∈ nm → (en t).1 ∈ pl ∧ (en t).2 ∈ pl) (hr : root ∈ pl) {L : List Str} (hL : L ∈ prodL en nm root pl) (hs : ∀ p, p ∈ pl → Rch en L root p) :
    Ind (gRk pl (Bw.enS en) nm) L ∧ Ind (hRk pl en nm root) L ∧ L.length + 1 = pl.length := by
  obtain ⟨m1, m2⟩ := mem_prodL.mp hL
  have l1 := congrArg List.length m1
  rw [List.length_map] at l1
  have l2 := nonroot_len np hr
  have eiS : ∀ t, t ∈ nm → (Bw.enS en t).1 ∈ pl ∧ (Bw.enS en t).2 ∈ pl := fun t ht => by
    unfold Bw.enS
    split
    · exact ⟨(ei t ht).2, (ei t ht).1⟩
    · exact ei t ht
  refine ⟨?_, ?_, by omega⟩
  · have h := (webRk_full np eiS m2 hr).mpr fun p hp => cn_enS.mpr (hs p hp).cn
    unfold Ind
    rw [gRk_lot m2]
    omega
  · unfold Ind hRk
    rw [l1]
    refine nodup_len_eq (hds_nd np _) (np.filter _) fun p => ?_
    rw [mem_hds, List.mem_filter, decide_eq_true_iff]
    constructor
    · rintro ⟨a, b, _⟩; exact ⟨a, b⟩
    · rintro ⟨a, b⟩
      have : p ∈ L.map fun t => (en t).2 := by rw [m1]; exact List.mem_filter.mpr ⟨a, decide_eq_true b⟩
      obtain ⟨t, t1, t2⟩ := List.mem_map.mp this
      exact ⟨a, b, t, t1, m2 t t1, t2⟩
/-- common lots of as many things are trees -/
theorem ind_tree (np : pl.Nodup) (ei : ∀ t, t ∈ nm → (en t).1 ∈ pl ∧ (en t).2 ∈ pl) (hr : root ∈ pl) {A : List Str} (nA : A.Nodup) (sA : ∀ t, t ∈ A → t ∈ nm) (i1 : Ind (gRk pl (Bw.enS en) nm) A) (i2 : Ind (hRk pl en nm root) A) (l : A.length + 1 = pl.length) :
    ∃ L, L ∈ prodL en nm root pl ∧ (∀ p, p ∈ pl → Rch en L root p) ∧ L.Perm A := by
  have l2 := nonroot_len np hr
  have eiS : ∀ t, t ∈ nm → (Bw.enS en t).1 ∈ pl ∧ (Bw.enS en t).2 ∈ pl := fun t ht => by
    unfold Bw.enS
    split
    · exact ⟨(ei t ht).2, (ei t ht).1⟩
    · exact ei t ht
  have i2' : (hds pl en nm root A).length = A.length := i2
  have full := nodup_full (hds_nd (en := en) (nm := nm) (root := root) np A) (B := pl.filter fun p => decide (p ≠ root)) (fun p hp => by
    obtain ⟨a, b, _⟩ := mem_hds.mp hp
    exact List.mem_filter.mpr ⟨a, decide_eq_true b⟩) (by omega)
  have hall : ∀ p, p ∈ pl → p ≠ root → ∃ t, t ∈ A ∧ (en t).2 = p := fun p a b => by
    obtain ⟨_, _, t, t1, _, t2⟩ := mem_hds.mp (full p (List.mem_filter.mpr ⟨a, decide_eq_true b⟩))
    exact ⟨t, t1, t2⟩
  obtain ⟨c1, c2⟩ := nodup_cover (M := A.map fun s => (en s).2) (P := pl.filter fun p => decide (p ≠ root)) (np.filter _) (fun p hp => by
    obtain ⟨a, b⟩ := List.mem_filter.mp hp
    obtain ⟨t, t1, t2⟩ := hall p a (of_decide_eq_true b)
    exact List.mem_map.mpr ⟨t, t1, t2⟩) (by rw [List.length_map]; omega)
  have hnr : ∀ s, s ∈ A → (en s).2 ≠ root := fun s hs => of_decide_eq_true (List.mem_filter.mp (c2 _ (List.mem_map.mpr ⟨s, hs, rfl⟩))).2
  have uniq : ∀ s t, s ∈ A → t ∈ A → (en s).2 = (en t).2 → s = t := fun s t hs ht e => by
    obtain ⟨i, hi, rfl⟩ := List.getElem_of_mem hs
    obtain ⟨j, hj, rfl⟩ := List.getElem_of_mem ht
    rcases Nat.lt_trichotomy i j with h | h | h
    · exact absurd e (Bw.pw_get (List.pairwise_map.mp c1) (List.getElem?_eq_getElem hi) (List.getElem?_eq_getElem hj) h)
    · subst h; rfl
    · exact absurd e.symm (Bw.pw_get (List.pairwise_map.mp c1) (List.getElem?_eq_getElem hj) (List.getElem?_eq_getElem hi) h)
  have hcn : ∀ p, p ∈ pl → Cn en A root p := fun p hp => by
    have i1' : webRk pl (Bw.enS en) A = A.length := (gRk_lot sA).symm.trans i1
    exact cn_enS.mp ((webRk_full np eiS sA hr).mp (by omega) p hp)
  have hreach : ∀ q, Cn en A root q → Rch en A root q := fun q h => by
    induction h with
    | refl => exact .base
    | fwd ht _ ih => exact .step ht ih
    | @bwd t ht _ ih =>
      generalize hx : (en t).2 = x at ih
      cases ih with
      | base => exact absurd hx (hnr t ht)
      | @step t' ht' h' => rw [uniq t t' ht ht' hx]; exact h'
  obtain ⟨L, hL, pL⟩ := arr (root := root) np sA nA c1 fun p => ⟨fun ⟨s, s1, s2⟩ => s2 ▸ ⟨(ei s (sA s s1)).2, hnr s s1⟩, fun ⟨a, b⟩ => hall p a b⟩
  exact ⟨L, hL, fun p hp => (hreach p (hcn p hp)).mono fun t ht => pL.mem_iff.mpr ht, pL⟩
theorem exit {L : List Str} {p : Str} (h : Rch en nm root p) (hn : ¬ Rch en L root p) : ∃ t, t ∈ nm ∧ Rch en L root (en t).1 ∧ ¬ Rch en L root (en t).2 := by
  induction h with
  | base => exact absurd .base hn
  | @step t ht _ ih =>
    by_cases h1 : Rch en L root (en t).1
    · exact ⟨t, ht, h1, hn⟩
    · exact ih h1
theorem grow_tree (ei : ∀ t, t ∈ nm → (en t).1 ∈ pl ∧ (en t).2 ∈ pl) (hall : ∀ p, p ∈ pl → Rch en nm root p) : ∀ (n : Nat) (L : List Str), pl.length - L.length ≤ n → (∀ t, t ∈ L → t ∈ nm) → (L.map fun s => (en s).2).Nodup → (∀ t, t ∈ L → (en t).2 ≠ root) → (∀ t, t ∈ L → Rch en L root (en t).2) →
    ∃ M : List Str, (∀ t, t ∈ M → t ∈ nm) ∧ (M.map fun s => (en s).2).Nodup ∧ (∀ t, t ∈ M → (en t).2 ≠ root) ∧ ∀ p, p ∈ pl → Rch en M root p := by
  intro n
  induction n with
  | zero =>
    intro L hn sL nd hr hR
    refine ⟨L, sL, nd, hr, fun p hp => Classical.byContradiction fun hno => ?_⟩
    obtain ⟨t, t1, t2, t3⟩ := exit (hall p hp) hno
    have : ((en t).2 :: L.map fun s => (en s).2).length ≤ pl.length := nodup_le (List.nodup_cons.mpr ⟨fun z => by
      obtain ⟨s, s1, s2⟩ := List.mem_map.mp z
      exact t3 (s2 ▸ hR s s1), nd⟩) fun x hx => by
        rcases List.mem_cons.mp hx with e | e
        · exact e ▸ (ei t t1).2
        · obtain ⟨s, s1, s2⟩ := List.mem_map.mp e
          exact s2 ▸ (ei s (sL s s1)).2
    rw [List.length_cons, List.length_map] at this
    omega
  | succ n ih =>
    intro L hn sL nd hr hR
    by_cases hdone : ∀ p, p ∈ pl → Rch en L root p
    · exact ⟨L, sL, nd, hr, hdone⟩
    · obtain ⟨p, hp⟩ := Classical.not_forall.mp hdone
      obtain ⟨hp, hno⟩ := Classical.not_imp.mp hp
      obtain ⟨t, t1, t2, t3⟩ := exit (hall p hp) hno
      have up : ∀ x, x ∈ L → x ∈ L ++ [t] := fun x hx => List.mem_append.mpr (.inl hx)
      have ht : t ∈ L ++ [t] := List.mem_append.mpr (.inr (List.mem_singleton.mpr rfl))
      refine ih (L ++ [t]) (by rw [List.length_append, List.length_singleton]; omega) (fun x hx => (List.mem_append.mp hx).elim (sL x) fun z => List.mem_singleton.mp z ▸ t1) ?_ (fun x hx => (List.mem_append.mp hx).elim (hr x) fun z => ?_) fun x hx => (List.mem_append.mp hx).elim (fun z => (hR x z).mono up) fun z => ?_
      · rw [List.map_append, List.nodup_append]
        refine ⟨nd, by simp, fun a ha b hb e => ?_⟩
        obtain ⟨s, s1, rfl⟩ := List.mem_map.mp ha
        have hb' : b = (en t).2 := by simpa using hb
        exact t3 (by rw [← hb', ← e]; exact hR s s1)
      · rw [List.mem_singleton.mp z]
        intro q
        exact t3 (q ▸ .base)
      · rw [List.mem_singleton.mp z]
        exact .step ht (t2.mono up)
/-- all is reached just if there is a tree -/
theorem reach_tree (np : pl.Nodup) (ei : ∀ t, t ∈ nm → (en t).1 ∈ pl ∧ (en t).2 ∈ pl) : (∀ p, p ∈ pl → Rch en nm root p) ↔ ∃ L, L ∈ prodL en nm root pl ∧ ∀ p, p ∈ pl → Rch en L root p := by
  constructor
  · intro h
    obtain ⟨M, sM, nd, hr, hall⟩ := grow_tree ei h _ [] (Nat.le_refl _) (fun t ht => by cases ht) List.nodup_nil (fun t ht => by cases ht) (fun t ht => by cases ht)
    have nM : M.Nodup := List.Pairwise.imp (fun n e => n (by rw [e])) (List.pairwise_map.mp nd)
    obtain ⟨L, hL, pL⟩ := arr (root := root) np sM nM nd fun p => ⟨fun ⟨s, s1, s2⟩ => s2 ▸ ⟨(ei s (sM s s1)).2, hr s s1⟩, fun ⟨a, b⟩ => by
      cases hall p a with
      | base => exact absurd rfl b
      | step ht _ => exact ⟨_, ht, rfl⟩⟩
    exact ⟨L, hL, fun p hp => (hall p hp).mono fun t ht => pL.mem_iff.mpr ht⟩
  · rintro ⟨L, hL, h⟩ p hp
    exact (h p hp).mono (mem_prodL.mp hL).2
theorem hRk_le (np : pl.Nodup) (hr : root ∈ pl) {A : List Str} (i : Ind (hRk pl en nm root) A) : A.length + 1 ≤ pl.length := by
  have l2 := nonroot_len np hr
  have h1 : (hds pl en nm root A).length ≤ (pl.filter fun p => decide (p ≠ root)).length := nodup_le (hds_nd np A) fun p hp => by
    obtain ⟨a, b, _⟩ := mem_hds.mp hp
    exact List.mem_filter.mpr ⟨a, decide_eq_true b⟩
  have h2 : (hds pl en nm root A).length = A.length := i
  omega
end
end Bm
set_option Elab.async false
set_option maxHeartbeats 4000000
set_option linter.all false
/-! what the law asks, in plain terms -/
namespace Bm
open PySem PySem.Spec PyProof.Rows Bs Bf
theorem sum_wt (w : Str → Int) : ∀ A : List Str, (A.map w).sum = wt w A
  | [] => rfl
  | a :: A => by rw [List.map_cons, List.sum_cons, sum_wt w A, wt_cons]
theorem wt_perm {w : Str → Int} {A B : List Str} (h : A.Perm B) : wt w A = wt w B := by
  induction h with
  | nil => rfl
  | cons x _ ih => rw [wt_cons, wt_cons, ih]
  | swap x y l => rw [wt_cons, wt_cons, wt_cons, wt_cons]; omega
  | trans _ _ a b => exact a.trans b
section
variable {pl nm : List Str} {en : Str → Str × Str} {root : Str} {b : List Str → Bool}
/-- the trees the law finds -/
abbrev trees (en : Str → Str × Str) (nm : List Str) (root : Str) (pl : List Str) (b : List Str → Bool) : List (List Str) := (prodL en nm root pl).filter b
structure TrOk (pl nm : List Str) (en : Str → Str × Str) (root : Str) (b : List Str → Bool) : Prop where
  ok : Bw.ArcOk pl nm en
  hr : root ∈ pl
  hb : ∀ L, L ∈ prodL en nm root pl → (b L = true ↔ ∀ p, p ∈ pl → Rch en L root p)
abbrev rA (pl nm : List Str) (en : Str → Str × Str) : List Str → Nat := gRk pl (Bw.enS en) nm
abbrev rB (pl nm : List Str) (en : Str → Str × Str) (root : Str) : List Str → Nat := hRk pl en nm root
theorem TrOk.ei (h : TrOk pl nm en root b) : ∀ t, t ∈ nm → (en t).1 ∈ pl ∧ (en t).2 ∈ pl := fun t ht => ⟨(h.ok.ei t ht).1, (h.ok.ei t ht).2.1⟩
theorem TrOk.eiS (h : TrOk pl nm en root b) : ∀ t, t ∈ nm → (Bw.enS en t).1 ∈ pl ∧ (Bw.enS en t).2 ∈ pl := fun t ht => by
  unfold Bw.enS
  split
  · exact ⟨(h.ei t ht).2, (h.ei t ht).1⟩
  · exact h.ei t ht
theorem TrOk.R1 (h : TrOk pl nm en root b) : IsRk (rA pl nm en) := gRk_rk h.ok.ps.nodup h.eiS
theorem TrOk.R2 (h : TrOk pl nm en root b) : IsRk (rB pl nm en root) := hRk_rk h.ok.ps.nodup h.ei
theorem TrOk.mem (h : TrOk pl nm en root b) {L : List Str} : L ∈ trees en nm root pl b ↔ L ∈ prodL en nm root pl ∧ ∀ p, p ∈ pl → Rch en L root p := by
  rw [List.mem_filter]
  exact and_congr_right fun hL => h.hb L hL
/-- a tree -/
theorem TrOk.tree (h : TrOk pl nm en root b) {L : List Str} (hL : L ∈ trees en nm root pl b) : L.Nodup ∧ (∀ t, t ∈ L → t ∈ nm) ∧ Ind (rA pl nm en) L ∧ Ind (rB pl nm en root) L ∧ L.length + 1 = pl.length := by
  obtain ⟨a, c⟩ := h.mem.mp hL
  obtain ⟨x, y, z⟩ := tree_ind h.ok.ps.nodup h.ei h.hr a c
  exact ⟨prod_nd h.ok.ps.nodup a, (mem_prodL.mp a).2, x, y, z⟩
theorem ind_srt {r : List Str → Nat} (R : IsRk r) {A : List Str} : Ind r (srt A) ↔ Ind r A := ind_perm R (fun x => mem_srt) (srt_len A)
theorem TrOk.srtL (h : TrOk pl nm en root b) {L : List Str} (hL : L ∈ trees en nm root pl b) : Lot nm (srt L) ∧ Ind (rA pl nm en) (srt L) ∧ Ind (rB pl nm en root) (srt L) ∧ (srt L).length + 1 = pl.length := by
  obtain ⟨a, c, d, e, f⟩ := h.tree hL
  exact ⟨lot_of h.ok.ss (srt_ss a) (fun x hx => c x (mem_srt.mp hx)), (ind_srt h.R1).mpr d, (ind_srt h.R2).mpr e, by rw [srt_len]; exact f⟩
/-- a common lot of as many things is a tree told sorted -/
theorem TrOk.of_ind (h : TrOk pl nm en root b) {A : List Str} (nA : A.Nodup) (sA : ∀ t, t ∈ A → t ∈ nm) (i1 : Ind (rA pl nm en) A) (i2 : Ind (rB pl nm en root) A) (l : A.length + 1 = pl.length) : ∃ L, L ∈ trees en nm root pl b ∧ L.Perm A := by
  obtain ⟨L, a, c, d⟩ := ind_tree h.ok.ps.nodup h.ei h.hr nA sA i1 i2 l
  exact ⟨L, h.mem.mpr ⟨a, c⟩, d⟩
theorem TrOk.of_lot (h : TrOk pl nm en root b) {A : List Str} (hA : Lot nm A) (i1 : Ind (rA pl nm en) A) (i2 : Ind (rB pl nm en root) A) (l : A.length + 1 = pl.length) : ∃ L, L ∈ trees en nm root pl b ∧ srt L = A := by
  have ss := hA.ss h.ok.ss
  obtain ⟨L, a, c⟩ := h.of_ind ss.nodup (fun x hx => hA.sub hx) i1 i2 l
  exact ⟨L, a, ss_ext (srt_ss (c.nodup_iff.mpr ss.nodup)) ss fun x => by rw [mem_srt]; exact c.mem_iff⟩
theorem TrOk.mx_le (h : TrOk pl nm en root b) : mx (rA pl nm en) (rB pl nm en root) nm + 1 ≤ pl.length := by
  have := h.ok.p2
  have : mx (rA pl nm en) (rB pl nm en root) nm ≤ pl.length - 1 := Bm.mx_le fun B _ _ b2 => by
    have := hRk_le h.ok.ps.nodup h.hr b2
    omega
  omega
theorem mx_at {r1 r2 : List Str → Nat} {nm : List Str} (R1 : IsRk r1) (R2 : IsRk r2) : ∃ B, B ∈ subs nm ∧ Ind r1 B ∧ Ind r2 B ∧ B.length = mx r1 r2 nm := by
  have key : ∀ l : List (List Str), (∃ B, B ∈ l ∧ Ind r1 B ∧ Ind r2 B ∧ B.length = (l.map fun A => if fre r1 A && fre r2 A then A.length else 0).foldr max 0) ∨ (l.map fun A => if fre r1 A && fre r2 A then A.length else 0).foldr max 0 = 0 := by
    intro l
    induction l with
    | nil => exact .inr rfl
    | cons A l ih =>
      rw [List.map_cons, List.foldr_cons]
      by_cases hc : (fre r1 A && fre r2 A) = true
      · rw [if_pos hc]
        rw [Bool.and_eq_true] at hc
        rcases ih with ⟨B, h1, h2, h3, h4⟩ | h0
        · rcases Nat.le_total A.length ((l.map fun A => if fre r1 A && fre r2 A then A.length else 0).foldr max 0) with z | z
          · exact .inl ⟨B, List.mem_cons_of_mem _ h1, h2, h3, by rw [Nat.max_eq_right z]; exact h4⟩
          · exact .inl ⟨A, List.mem_cons_self, fre_iff.mp hc.1, fre_iff.mp hc.2, by rw [Nat.max_eq_left z]⟩
        · exact .inl ⟨A, List.mem_cons_self, fre_iff.mp hc.1, fre_iff.mp hc.2, by rw [h0]; simp⟩
      · rw [if_neg hc]
        rcases ih with ⟨B, h1, h2, h3, h4⟩ | h0
        · exact .inl ⟨B, List.mem_cons_of_mem _ h1, h2, h3, by rw [Nat.zero_max]; exact h4⟩
        · exact .inr (by rw [h0]; rfl)
  rcases key (subs nm) with h | h
  · exact h
  · refine ⟨[], ?_, R1.nil, R2.nil, ?_⟩
    · have := filter_subs (fun _ => false) nm
      rw [List.filter_eq_nil_iff.mpr (fun _ _ => Bool.false_ne_true)] at this
      exact this
    · unfold mx
      rw [h]; rfl
theorem subs_ss : ∀ {nm A : List Str}, SS nm → A ∈ subs nm → SS A
  | [], A, _, h => by
    have : A = [] := by simpa [subs] using h
    rw [this]; exact List.Pairwise.nil
  | y :: nm, A, n, h => by
    have n' := List.pairwise_cons.mp n
    have h' : A ∈ subs nm ++ (subs nm).map (y :: ·) := h
    rcases List.mem_append.mp h' with q | q
    · exact subs_ss n'.2 q
    · obtain ⟨B, hB, rfl⟩ := List.mem_map.mp q
      exact List.pairwise_cons.mpr ⟨fun z hz => n'.1 z (subs_sub nm hB z hz), subs_ss n'.2 hB⟩
/-- the greatest has one less than there are places just if there is a tree -/
theorem TrOk.mx_eq (h : TrOk pl nm en root b) : mx (rA pl nm en) (rB pl nm en root) nm + 1 = pl.length ↔ trees en nm root pl b ≠ [] := by
  constructor
  · intro e
    obtain ⟨B, h1, h2, h3, h4⟩ := mx_at (nm := nm) h.R1 h.R2
    obtain ⟨L, hL, _⟩ := h.of_ind (subs_ss h.ok.ss h1).nodup (subs_sub nm h1) h2 h3 (by omega)
    intro z
    rw [z] at hL; cases hL
  · intro hne
    obtain ⟨L, hL⟩ := List.exists_mem_of_ne_nil _ hne
    obtain ⟨a, c, d, e⟩ := h.srtL hL
    have := le_mx a c d
    have := h.mx_le
    omega
theorem TrOk.reach (h : TrOk pl nm en root b) : (∀ p, p ∈ pl → Rch en nm root p) ↔ trees en nm root pl b ≠ [] := by
  rw [reach_tree h.ok.ps.nodup h.ei]
  constructor
  · rintro ⟨L, a, c⟩ z
    have := h.mem.mpr ⟨a, c⟩
    rw [z] at this; cases this
  · intro hne
    obtain ⟨L, hL⟩ := List.exists_mem_of_ne_nil _ hne
    exact ⟨L, h.mem.mp hL⟩
/-- no tree weighs more -/
theorem TrOk.best (h : TrOk pl nm en root b) {wt : Str → Int} {A L : List Str} (hA : Bw.HvL (rA pl nm en) (rB pl nm en root) nm wt A) (l : A.length + 1 = pl.length) (hL : L ∈ trees en nm root pl b) : (L.map wt).sum ≤ (A.map wt).sum := by
  obtain ⟨_, s, i1, i2, e⟩ := h.tree hL
  rw [sum_wt, sum_wt]
  exact ext_best h.R1 h.R2 hA.i1 hA.i2 (fun x hx => hA.lot.sub hx) hA.ext L i1 i2 (by omega) s
theorem sum_srt (wt : Str → Int) (L : List Str) : ((srt L).map wt).sum = (L.map wt).sum := by
  rw [sum_wt, sum_wt]
  exact wt_perm (srt_perm L)
theorem loc_of_tr {r : List Str → Nat} (R : IsRk r) {A : List Str} (nd : A.Nodup) {wf : Str → Int} : Bw.NoTr r nm A wf ↔ Bf.Loc wf r nm A := by
  unfold Bw.NoTr Bf.Loc
  constructor
  · intro h y hy x hx hxA ex
    exact h y x ((trd_ex R nd).mpr ⟨hy, hx, hxA, ex⟩)
  · intro h y x hyx
    obtain ⟨a, c, d, e⟩ := (trd_ex R nd).mp hyx
    exact h y a x c d e
/-- a split shows just the heaviest trees -/
theorem TrOk.split (h : TrOk pl nm en root b) {wt wf wg : Str → Int} {A L : List Str} (hs : ∀ x, wf x + wg x = wt x) (hA : Bw.HvL (rA pl nm en) (rB pl nm en root) nm wt A) (l : A.length + 1 = pl.length) (n1 : Bw.NoTr (rA pl nm en) nm A wf) (n2 : Bw.NoTr (rB pl nm en root) nm A wg)
    (hL : L ∈ trees en nm root pl b) : (Bw.NoTrade (rA pl nm en) nm L wf ∧ Bw.NoTrade (rB pl nm en root) nm L wg) ↔ (L.map wt).sum = (A.map wt).sum := by
  obtain ⟨a1, a2, a3, a4⟩ := h.srtL hL
  have ndA := (hA.lot.ss h.ok.ss).nodup
  have ndL := (a1.ss h.ok.ss).nodup
  have sA : ∀ x, x ∈ A → x ∈ nm := fun x hx => hA.lot.sub hx
  have sL : ∀ x, x ∈ srt L → x ∈ nm := fun x hx => a1.sub hx
  have b1 := loc_best h.R1 hA.i1 sA ((loc_of_tr h.R1 ndA).mp n1)
  have b2 := loc_best h.R2 hA.i2 sA ((loc_of_tr h.R2 ndA).mp n2)
  have c1 := b1 (srt L) a2 (by omega) sL
  have c2 := b2 (srt L) a3 (by omega) sL
  have e1 := wt_sum (w := wt) (w1 := wf) (w2 := wg) hs (srt L)
  have e2 := wt_sum (w := wt) (w1 := wf) (w2 := wg) hs A
  rw [← sum_srt, sum_wt, sum_wt]
  constructor
  · rintro ⟨m1, m2⟩
    have d1 := loc_best h.R1 a2 sL ((loc_of_tr h.R1 ndL).mp m1) A hA.i1 (by omega) sA
    have d2 := loc_best h.R2 a3 sL ((loc_of_tr h.R2 ndL).mp m2) A hA.i2 (by omega) sA
    omega
  · intro e
    constructor
    · refine (loc_of_tr h.R1 ndL).mpr (glob_loc h.R1 a2 sL fun M m1 m2 m3 => ?_)
      have := b1 M m1 (by omega) m3
      omega
    · refine (loc_of_tr h.R2 ndL).mpr (glob_loc h.R2 a3 sL fun M m1 m2 m3 => ?_)
      have := b2 M m1 (by omega) m3
      omega
theorem drw_nil {r : List Str → Nat} (R : IsRk r) (A : List Str) : drwRk r [] A = r A := by
  unfold drwRk
  rw [List.append_nil, R.nil]; rfl
/-- needed: the arcs of all trees -/
theorem TrOk.need (h : TrOk pl nm en root b) {A : List Str} (hA : Lot nm A) (i1 : Ind (rA pl nm en) A) (i2 : Ind (rB pl nm en root) A) (l : A.length + 1 = pl.length) :
    Bw.selN nm A (rA pl nm en) (rB pl nm en root) = nm.filter fun x => (trees en nm root pl b).all fun L => decide (x ∈ L) := by
  have ss := h.ok.ss
  refine ss_ext ((hA.ss ss).filter _) (ss.filter _) fun x => ?_
  unfold Bw.selN
  rw [List.mem_filter, List.mem_filter, decide_eq_true_iff, List.all_eq_true]
  constructor
  · rintro ⟨hx, hm⟩
    refine ⟨hA.sub hx, fun L hL => decide_eq_true (Classical.byContradiction fun hn => ?_)⟩
    obtain ⟨a1, a2, a3, a4⟩ := h.srtL hL
    have hl : Lot (les nm [x]) (srt L) := lot_of (ss.filter _) (a1.ss ss) fun y hy => mem_les.mpr ⟨a1.sub hy, fun z => hn (by rw [List.mem_singleton.mp z] at hy; exact mem_srt.mp hy)⟩
    have := le_mx (r1 := drwRk (rA pl nm en) []) (r2 := drwRk (rB pl nm en root) []) hl ((drw_nil h.R1 _).trans a2) ((drw_nil h.R2 _).trans a3)
    omega
  · rintro ⟨hx, hall⟩
    obtain ⟨L0, h0, e0⟩ := h.of_lot hA i1 i2 l
    have hxA : x ∈ A := by rw [← e0]; exact mem_srt.mpr (of_decide_eq_true (hall L0 h0))
    refine ⟨hxA, ?_⟩
    obtain ⟨B, h1, h2, h3, h4⟩ := mx_at (nm := les nm [x]) (r1 := drwRk (rA pl nm en) []) (r2 := drwRk (rB pl nm en root) []) (Bw.drw_rk h.R1 []) (Bw.drw_rk h.R2 [])
    rw [← h4]
    have j1 : Ind (rA pl nm en) B := (drw_nil h.R1 _).symm.trans h2
    have j2 : Ind (rB pl nm en root) B := (drw_nil h.R2 _).symm.trans h3
    have hle := hRk_le h.ok.ps.nodup h.hr j2
    refine Classical.byContradiction fun hn => ?_
    have sB := subs_sub _ h1
    obtain ⟨L, hL, pL⟩ := h.of_ind (subs_ss (ss.filter _) h1).nodup (fun y hy => (mem_les.mp (sB y hy)).1) j1 j2 (by omega)
    have hxB := pL.mem_iff.mp (of_decide_eq_true (hall L hL))
    exact (mem_les.mp (sB x hxB)).2 (List.mem_singleton.mpr rfl)
/-- possible: the arcs of some tree -/
theorem TrOk.poss (h : TrOk pl nm en root b) {A : List Str} (hA : Lot nm A) (i1 : Ind (rA pl nm en) A) (i2 : Ind (rB pl nm en root) A) (l : A.length + 1 = pl.length) :
    Bw.selP nm A (rA pl nm en) (rB pl nm en root) = nm.filter fun x => (trees en nm root pl b).any fun L => decide (x ∈ L) := by
  have ss := h.ok.ss
  unfold Bw.selP
  refine List.filter_congr fun x hx => ?_
  rw [Bool.eq_iff_iff, Bool.and_eq_true, Bool.or_eq_true, Bool.and_eq_true, decide_eq_true_iff, decide_eq_true_iff, List.any_eq_true]
  have mem1 : ∀ {B : List Str}, x ∈ B → ∀ y, y ∈ [x] → y ∈ B := fun hB y hy => by rw [List.mem_singleton.mp hy]; exact hB
  constructor
  · rintro ⟨hfree, hm⟩
    have hf : Ind (rA pl nm en) [x] ∧ Ind (rB pl nm en root) [x] := by
      rcases hfree with z | ⟨z1, z2⟩
      · exact ⟨i1.sub h.R1 (by simp) (mem1 z), i2.sub h.R2 (by simp) (mem1 z)⟩
      · exact ⟨fre_iff.mp z1, fre_iff.mp z2⟩
    obtain ⟨B, h1, h2, h3, h4⟩ := mx_at (nm := les nm [x]) (r1 := drwRk (rA pl nm en) [x]) (r2 := drwRk (rB pl nm en root) [x]) (Bw.drw_rk h.R1 [x]) (Bw.drw_rk h.R2 [x])
    have j1 := (Bw.drw_ind h.R1 hf.1).mp h2
    have j2 := (Bw.drw_ind h.R2 hf.2).mp h3
    have sB := subs_sub _ h1
    have ndB := (subs_ss (ss.filter _) h1).nodup
    have nx : x ∉ B := fun hxB => (mem_les.mp (sB x hxB)).2 (List.mem_singleton.mpr rfl)
    obtain ⟨L, hL, pL⟩ := h.of_ind (A := B ++ [x]) (List.nodup_append.mpr ⟨ndB, by simp, fun a ha c hc e => nx (by rw [← List.mem_singleton.mp hc, ← e]; exact ha)⟩) (fun y hy => (List.mem_append.mp hy).elim (fun z => (mem_les.mp (sB y z)).1) fun z => List.mem_singleton.mp z ▸ hx) j1 j2 (by rw [List.length_append, List.length_singleton]; omega)
    exact ⟨L, hL, decide_eq_true (pL.mem_iff.mpr (List.mem_append.mpr (.inr (List.mem_singleton.mpr rfl))))⟩
  · rintro ⟨L, hL, hxL'⟩
    have hxL := of_decide_eq_true hxL'
    obtain ⟨a1, a2, a3, a4, a5⟩ := h.tree hL
    have f1 : Ind (rA pl nm en) [x] := a3.sub h.R1 (by simp) (mem1 hxL)
    have f2 : Ind (rB pl nm en root) [x] := a4.sub h.R2 (by simp) (mem1 hxL)
    refine ⟨.inr ⟨fre_iff.mpr f1, fre_iff.mpr f2⟩, ?_⟩
    have sL : srt (les L [x]) = srt (les L [x]) := rfl
    have ndl : (les L [x]).Nodup := a1.filter _
    have hlen := les_one_len a1 hxL
    have hmem : ∀ y, y ∈ les L [x] ++ [x] ↔ y ∈ L := fun y => by
      rw [List.mem_append, mem_les, List.mem_singleton]
      constructor
      · rintro (⟨p, _⟩ | p)
        · exact p
        · exact p ▸ hxL
      · intro p
        by_cases e : y = x
        · exact .inr e
        · exact .inl ⟨p, e⟩
    have k1 : Ind (rA pl nm en) (les L [x] ++ [x]) := (ind_perm h.R1 hmem (by rw [List.length_append, List.length_singleton]; omega)).mpr a3
    have k2 : Ind (rB pl nm en root) (les L [x] ++ [x]) := (ind_perm h.R2 hmem (by rw [List.length_append, List.length_singleton]; omega)).mpr a4
    have hl : Lot (les nm [x]) (srt (les L [x])) := lot_of (ss.filter _) (srt_ss ndl) fun y hy => by
      obtain ⟨y1, y2⟩ := mem_les.mp (mem_srt.mp hy)
      exact mem_les.mpr ⟨a2 y y1, y2⟩
    have g1 := le_mx (r1 := drwRk (rA pl nm en) [x]) (r2 := drwRk (rB pl nm en root) [x]) hl ((ind_srt (Bw.drw_rk h.R1 [x])).mpr ((Bw.drw_ind h.R1 f1).mpr k1)) ((ind_srt (Bw.drw_rk h.R2 [x])).mpr ((Bw.drw_ind h.R2 f2).mpr k2))
    rw [srt_len] at g1
    obtain ⟨B, h1, h2, h3, h4⟩ := mx_at (nm := les nm [x]) (r1 := drwRk (rA pl nm en) [x]) (r2 := drwRk (rB pl nm en root) [x]) (Bw.drw_rk h.R1 [x]) (Bw.drw_rk h.R2 [x])
    have j2 := (Bw.drw_ind h.R2 f2).mp h3
    have hle := hRk_le h.ok.ps.nodup h.hr j2
    rw [List.length_append, List.length_singleton] at hle
    omega
end
end Bm
set_option Elab.async false
set_option linter.all false
set_option pp.maxSteps 300
set_option maxRecDepth 100000
set_option maxHeartbeats 0
/-! the law itself -/
namespace Bw
open PySem PySem.Spec PyProof.Rows L2 Bt Bs Bm
theorem name_ok {z : Str} (h : IsName z) : PyData.strOk z = true := by
  unfold PyData.strOk
  rw [← Array.all_toList, List.all_eq_true]
  intro c hc
  exact (by decide +kernel : ∀ c, c ∈ ("abcdefghijklmnopqrstuvwxyz" : Str).cps.toList → decide (c < 0x110000) = true) c (h.2.2 c hc)
theorem hu65_of {k : Nat} {A : Around} (hr : Room k A) : A.units + 65 < cLine := by
  have := hr.un
  omega
theorem iteF' {b : Bool} {A B : Prop} (hb : b = false) (h : B) : if b = true then A else B := by
  rw [hb]; exact iteF h
theorem iteT' {b : Bool} {A B : Prop} (hb : b = true) (h : A) : if b = true then A else B := by
  rw [hb]; exact iteT h
theorem ne_bl {b c : Bool} (h : b = c) : (!decide (V.bl b = V.bl c)) = false := by
  rw [h, decide_eq_true rfl]; rfl
theorem ne_int {b c : Int} (h : b = c) : (!decide (V.int b = V.int c)) = false := by
  rw [h, decide_eq_true rfl]; rfl
theorem wipe1 (σ : L2.St) (j : Nat) (v : Option V) : wipe ((wipe σ [j]).set j v) [j] = wipe σ [j] := by
  show ((σ.set j none).set j v).set j none = σ.set j none
  rw [List.set_set, List.set_set]
/-! ### what stays where all but the state does -/
section
variable {K : PySem.W.Frag} {R : Reg} {a sc p q c d b : Addr} {ns : List Int} {H H' : Hp} {pl nm kn : List Str} {en : Str → Str × Str} {r : List Str → Nat} {rooms : List (List Str × Int)} {o : HO}
theorem ka_at (s : StS H a sc ns) (k : KA a H H') (h : H b = some o) (ho : ∀ ys, o ≠ .lst ys) (hT : isT o = false := by rfl) : H' b = some o := k b o h (fun z => by
  obtain ⟨_, _, _, _, _, e, _⟩ := s
  rw [z, e] at h
  exact ho _ (Option.some.inj h).symm) hT
theorem ArcS.ka (s : StS H a sc ns) (k : KA a H H') (h : ArcS H d nm en) : ArcS H' d nm en := by
  obtain ⟨kvs, h1, h2, h3⟩ := h.ob
  refine ⟨kvs, ka_at s k h1 nofun, h2, fun t ht => ?_⟩
  obtain ⟨e, e1, e2⟩ := h3 t ht
  exact ⟨e, e1, ka_at s k e2 nofun⟩
theorem WebS.ka (s : StS H a sc ns) (k : KA a H H') (h : WebS K H q pl en nm) : WebS K H' q pl en nm := by
  obtain ⟨⟨dx, kn, d, kvs, h1, h2, h3, h4⟩, a', b, e⟩ := h
  refine ⟨⟨dx, kn, d, kvs, ka_at s k h1 nofun, ka_at s k h2 nofun, ka_at s k h3 nofun, fun t ht => ?_⟩, a', b, e⟩
  obtain ⟨x, e1, e2⟩ := h4 t ht
  exact ⟨x, e1, ka_at s k e2 nofun⟩
theorem CntS.ka (s : StS H a sc ns) (k : KA a H H') (h : CntS K H c kn rooms) : CntS K H' c kn rooms := by
  obtain ⟨⟨dx, kk, l, vs, h1, h2, h3, h4⟩, lr⟩ := h
  have nl : l ≠ a := fun z => by
    obtain ⟨_, _, _, _, _, e, _⟩ := s
    rw [z, e] at h3
    cases h3
    cases h4 with
    | cons _ t =>
      cases t with
      | cons r _ =>
        obtain ⟨_, _, e2, _⟩ := r
        cases e2
  exact ⟨⟨dx, kk, l, vs, ka_at s k h1 nofun, ka_at s k h2 nofun, k l _ h3 nl rfl, L2.Paired.mapP h4 fun v x ⟨t, a', e, h5, h6⟩ => ⟨t, a', e, ka_at s k h5 nofun, ka_at s k h6 nofun⟩⟩, lr⟩
theorem BaseS.ka (s : StS H a sc ns) (k : KA a H H') (h : BaseS K H q nm r) : BaseS K H' q nm r := by
  cases h with
  | web h e => exact .web (WebS.ka s k h) e
  | cnt h1 h2 e => exact .cnt (ka_at s k h1 nofun) (CntS.ka s k h2) e
theorem FamO.ka (s : StS H a sc ns) (k : KA a H H') (h : FamO K R H p q nm r) : FamO K R H' p q nm r := by
  obtain ⟨⟨dx, a', d, h1, h2, h3⟩, e1, e2, e3, e4⟩ := h
  exact ⟨⟨dx, a', d, ka_at s k h1 nofun, ka_at s k h2 nofun, h3⟩, e1, e2, e3, e4⟩
theorem FamB.ka (s : StS H a sc ns) (k : KA a H H') (h : FamB K R H p nm r) : FamB K R H' p nm r := by
  obtain ⟨q, h1, h2⟩ := h.src
  exact ⟨q, FamO.ka s k h1, BaseS.ka s k h2⟩
theorem lotV.ka (s : StS H a sc ns) (k : KA a H H') {v : V} {A : List Str} (h : lotV H v A) : lotV H' v A := by
  obtain ⟨t, e, h1⟩ := h
  exact ⟨t, e, ka_at s k h1 nofun⟩
end
/-! ### lists of tuples of texts -/
section
variable {K : PySem.W.Frag}
theorem dp_tups {H : Hp} : ∀ {vs : List V} {zs : List (List Str)}, Paired (lotV H) vs zs → DpAll K H vs (zs.map fun a => PyData.tuple (a.map PyData.str))
  | _, _, .nil => .nil
  | _, _, .cons r t => by
    obtain ⟨q, rfl, h⟩ := r
    exact .cons (.tup (SqT.of h) (dp_strs _)) (dp_tups t)
theorem lay_tups : ∀ (zs : List (List Str)), (∀ a, a ∈ zs → ∀ x, x ∈ a → PyData.strOk x = true) → PyData.canLayAll0 (zs.map fun a => PyData.tuple (a.map PyData.str)) = true
  | [], _ => by simp [PyData.canLayAll0]
  | a :: as, h => by
    have h1 := canLay_strs a (h a List.mem_cons_self)
    have h2 := lay_tups as fun b hb => h b (List.mem_cons_of_mem _ hb)
    simp only [List.map_cons, PyData.canLayAll0, PyData.canLay0, h1, h2, Bool.and_true]
theorem depth_tups : ∀ (zs : List (List Str)), PyData.depthAll (zs.map fun a => PyData.tuple (a.map PyData.str)) ≤ 2
  | [] => by simp [PyData.depthAll]
  | a :: as => by
    have h1 := depth_strs a
    have h2 := depth_tups as
    simp only [List.map_cons, PyData.depthAll, PyData.depth]
    omega
theorem shaped_tups {zs : List (List Str)} (h : ∀ a, a ∈ zs → ∀ x, x ∈ a → PyData.strOk x = true) : SeqAt.shaped (.list (zs.map fun a => PyData.tuple (a.map PyData.str))) = true := by
  have h1 := depth_tups zs
  have h2 : PyData.depth (.list (zs.map fun a => PyData.tuple (a.map PyData.str))) ≤ 64 := by simp only [PyData.depth]; omega
  show (PyData.canLay0 (.list (zs.map fun a => PyData.tuple (a.map PyData.str))) && decide (PyData.depth (.list (zs.map fun a => PyData.tuple (a.map PyData.str))) ≤ 64)) = true
  rw [Bool.and_eq_true]
  exact ⟨by simp only [PyData.canLay0]; exact lay_tups zs h, decide_eq_true h2⟩
/-- trees == [] -/
theorem eq_nilU {H : Hp} {a b : Addr} {vs : List V} {zs : List (List Str)} {Q : VK} (ha : H a = some (.lst vs)) (hz : Paired (lotV H) vs zs) (hb : H b = some (.lst [])) (ok : ∀ a, a ∈ zs → ∀ x, x ∈ a → PyData.strOk x = true) (q : Q (.bl (decide (zs = []))) H) :
    rEqD K (.ref a) (.ref b) H Q :=
  ⟨_, _, .lst (SqL.of ha) (dp_tups hz), .lst (SqL.of hb) .nil, shaped_tups ok, by decide, by
    cases zs with
    | nil => exact q
    | cons z zs => exact q⟩
/-- trees != [] -/
theorem ne_nilU {H : Hp} {a b : Addr} {vs : List V} {zs : List (List Str)} {Q : VK} (ha : H a = some (.lst vs)) (hz : Paired (lotV H) vs zs) (hb : H b = some (.lst [])) (ok : ∀ a, a ∈ zs → ∀ x, x ∈ a → PyData.strOk x = true) (q : Q (.bl (!decide (zs = []))) H) :
    rNeD K (.ref a) (.ref b) H Q :=
  ⟨_, _, .lst (SqL.of ha) (dp_tups hz), .lst (SqL.of hb) .nil, shaped_tups ok, by decide, by
    cases zs with
    | nil => exact q
    | cons z zs => exact q⟩
/-- a tuple of texts that stands among others -/
theorem notin_tups {H : Hp} {z D : Addr} {ys : List V} {A : List Str} {zs : List (List Str)} {Q : VK} (hz : H z = some (.tup (A.map V.str))) (hD : H D = some (.lst ys)) (pr : Paired (lotV H) ys zs) (oA : ∀ x, x ∈ A → PyData.strOk x = true) (oZ : ∀ a, a ∈ zs → ∀ x, x ∈ a → PyData.strOk x = true)
    (hin : A ∈ zs) (q : Q (.bl false) H) : rNotInD K (.ref z) (.ref D) H Q := by
  have e : ((zs.map fun a => PyData.tuple (a.map PyData.str)).any fun z => PyData.eqv z (.tuple (A.map PyData.str))) = true :=
    List.any_eq_true.mpr ⟨.tuple (A.map PyData.str), List.mem_map.mpr ⟨A, hin, rfl⟩, by
      show PyData.eqvAll (A.map PyData.str) (A.map PyData.str) = true
      rw [eqvAll_strs]; exact decide_eq_true rfl⟩
  refine ⟨.tuple (A.map PyData.str), zs.map fun a => .tuple (a.map PyData.str), .tup (SqT.of hz) (dp_strs A), .lst (SqL.of hD) (dp_tups pr), shaped_strsT oA, shaped_tups oZ, ?_⟩
  rw [e]; exact q
/-- x == y of two lists of texts -/
theorem eq_strs {H : Hp} {a b : Addr} {A B : List Str} {Q : VK} (ha : H a = some (.lst (A.map V.str))) (hb : H b = some (.lst (B.map V.str))) (oa : ∀ x, x ∈ A → PyData.strOk x = true) (ob : ∀ x, x ∈ B → PyData.strOk x = true) (q : Q (.bl (decide (A = B))) H) :
    rEqD K (.ref a) (.ref b) H Q :=
  ⟨_, _, .lst (SqL.of ha) (dp_strs A), .lst (SqL.of hb) (dp_strs B), shaped_strs oa, shaped_strs ob, by
    show Q (.bl (PyData.eqvAll (A.map PyData.str) (B.map PyData.str))) H
    rw [eqvAll_strs]; exact q⟩
theorem paired_srt {H : Hp} : ∀ {its : List (V × List Str)} {ys : List V}, Paired (fun (x : V × List Str) v => lotV H v (srt x.2)) its ys → Paired (lotV H) ys (its.map fun x => srt x.2)
  | _, _, .nil => .nil
  | _, _, .cons r t => .cons r (paired_srt t)
end
section
variable {P : Program} {w : World} {K : PySem.W.Frag} {mg : Str → Option Value} {base : Heap}
def spLaw (K : PySem.W.Frag) : Sp := fun vs H Q _ => ∃ (a : Addr) (ns : List Int), vs = [.ref a] ∧ SqL K H a (ns.map V.int) ∧ ∀ H', Q (.bl true) H'
def R0 : Reg := fun _ => none
abbrev N_law : List Str := ["_law_script", "_law_state_here", "_law_places", "_law_arcs_here", "_law_root", "_law_things", "_law_ties", "_law_heads_here", "_law_lot", "_law_x", "_law_trees_here", "_law_whole", "_law_one", "_law_weights_here", "_law_told", "_law_best", "_law_parts", "_law_shown", "_law_needed_ones", "_law_possible_ones", "_law_name"]
theorem sc_law : FnScope N_law ["_law_script"] (defScope s_law) := ⟨rfl, rfl, rfl, by decide +kernel, rfl, by decide +kernel, by decide +kernel⟩
theorem mkOk {x : Str} {st : Stmt} {N ps : List Str} {k : Nat} {sp : Sp} {f : Addr} {fd : FuncData} (F : FnQ K x x st f fd) (S : FnScope N ps (defScope st)) (len : ∀ vs H Q E, sp vs H Q E → vs.length = ps.length)
    (body : ∀ (cdv : Value) (A : Around) (outer : List Env) (s : Shared) (H : Hp) (vs : List V) (Q : VK) (E : XK), Room k (A.deeper (envOfC x (defScope st) s.heap.objs.size f cdv)) → sp vs H Q E →
      ∃ t, PSs (cxOf CX0 P w K mg base N x (defScope st) f cdv A outer s H E).nox (defBody st) t ∧ t { nx := fun _ H' => Q .non H', rt := Q } (start N vs) H) : FnOk P w K mg base CX0 (k + 1) f fd ps sp :=
  F.ok S len fun cdv A outer s H vs Q E hr h => let ⟨t, a, b⟩ := body cdv A outer s H vs Q E hr h; ⟨t, a.nox, b⟩
theorem law_ok (T : Txt K mg) {fd : FuncData} (F : FnQ K "law" "law" s_law (He.ga K "law") fd) : FnOk P w K mg base CX0 13 (He.ga K "law") fd ["_law_script"] (spLaw K) := by
  obtain ⟨fw, F_Web, b_Web⟩ := (c_Web_init (P := P) (w := w) (base := base) T).ex
  refine mkOk F sc_law (fun vs H Q E h => ?_) (fun cdv A outer s H vs Q E hr h => ?_)
  · obtain ⟨sa, ns, rfl, _⟩ := h; rfl
  · obtain ⟨sa, ns, rfl, hs, q⟩ := h
    have hu := hu_of hr
    have hu65 := hu65_of hr
    refine ⟨_, (pss_cons (ps_set (i := 1) sc_law.nd rfl (Or.inl rfl) (pe_f (c_law_state T) hr (pa_cons (pv 0) pa_nil)))
      (pss_cons (ps_asg (pe_f (c_law_arcs T) hr (pa_cons (pv 1) (pa_cons pe_int pa_nil))) (pg_tup (by rfl) (pgs_cons (pg_name (i := 2) sc_law.nd rfl (by first | exact Or.inl rfl | exact Or.inr rfl)) (pgs_cons (pg_name (i := 3) sc_law.nd rfl (by first | exact Or.inl rfl | exact Or.inr rfl)) pgs_nil))))
      (pss_cons (ps_set (i := 4) sc_law.nd rfl (Or.inl rfl) (pe_ix ix_list (pv 2) (pe_f (c_law_draw T) hr (pa_cons (pv 1) (pa_cons (pe_callB call_len_seq (by rfl) T.f_len bt_len (pa_cons (pv 2) pa_nil)) pa_nil))) (fun _ _ => rfl)))
      (pss_cons (ps_set (i := 5) sc_law.nd rfl (Or.inl rfl) (pe_callB (call_sortedD rfl) (by rfl) T.f_sorted bt_sorted (pa_cons (pv 3) pa_nil)))
      (pss_cons (ps_set (i := 6) sc_law.nd rfl (Or.inl rfl) (pe_f (c_ties_family T) hr (pa_cons (pe_make T.k_Web F_Web (hr.mono (by decide)) (by rfl) T.g_Web b_Web .nil pass0 (pa_cons (pv 2) (pa_cons (pv 3) pa_nil))) pa_nil)))
      (pss_cons (ps_set (i := 7) sc_law.nd rfl (Or.inl rfl) (pe_f (c_law_heads T) hr (pa_cons (pv 2) (pa_cons (pv 3) (pa_cons (pe_lst (pa_cons (pv 4) pa_nil)) pa_nil)))))
      (pss_cons (ps_asg (pe_f (c_both T) hr (pa_cons (pv 6) (pa_cons (pv 7) pa_nil))) (pg_tup (by rfl) (pgs_cons (pg_name (i := 8) sc_law.nd rfl (by first | exact Or.inl rfl | exact Or.inr rfl)) (pgs_cons (pg_name (i := 9) sc_law.nd rfl (by first | exact Or.inl rfl | exact Or.inr rfl)) pgs_nil))))
      (pss_cons (ps_set (i := 10) sc_law.nd rfl (Or.inr rfl) (pe_f (c_law_trees T) hr (pa_cons (pv 2) (pa_cons (pv 3) (pa_cons (pv 4) pa_nil)))))
      (pss_cons (ps_set (i := 11) sc_law.nd rfl (Or.inl rfl) (pe_op op_sub (pe_callB call_len_seq (by rfl) T.f_len bt_len (pa_cons (pv 2) pa_nil)) pe_int))
      (pss_cons (ps_if (PW.pt (pw_or (pt_cmpR op_ne (pe_cmpR op_eq (pe_callB call_len_seq (by rfl) T.f_len bt_len (pa_cons (pv 8) pa_nil)) (pv 11) (nomark _)) (pe_cmpR op_eq (pe_callB call_len_seq (by rfl) T.f_len bt_len (pa_cons (pe_f (c_law_reached T) hr (pa_cons (pv 3) (pa_cons (pe_lst (pa_cons (pv 4) pa_nil)) pa_nil))) pa_nil)) (pe_callB call_len_seq (by rfl) T.f_len bt_len (pa_cons (pv 2) pa_nil)) (nomark _)) (nomark _)) (pw_or1 (pt_cmpR op_ne (pe_cmpR op_eq (pe_callB call_len_seq (by rfl) T.f_len bt_len (pa_cons (pv 8) pa_nil)) (pv 11) (nomark _)) (pe_cmpR (op_neD hr.units) (pv 10) (pe_lst pa_nil) (nomark _)) (nomark _))))) (pss_one (ps_ret pe_bl)) pss_nil)
      (pss_cons (ps_if (PW.pt (pw_or (pt_cmpR op_notN (pe_f (c_both_fault T) hr (pa_cons (pv 6) (pa_cons (pv 7) (pa_cons (pv 8) (pa_cons (pv 9) pa_nil))))) pe_non (nomark _)) (pw_or1 (PW.pt (pw_and (pt_cmpR op_eq (pe_callB call_len_seq (by rfl) T.f_len bt_len (pa_cons (pv 8) pa_nil)) (pv 11) (nomark _)) (pw_and1 (pt_cmpR (op_notInD hu65) (pe_callTy call_tuple_of (by rfl) T.f_tuple bt_tuple (pa_cons (pv 8) pa_nil)) (pe_lc (own := [("_law_one", 12)]) (by rfl) sc_law.nd (pi_list (pv 10)) (blkOk_by (own := [("_law_one", 12)]) (N := N_law) (sc := defScope s_law) (by decide +kernel)) (fun _ _ _ _ _ => (pg_name (i := 12) sc_law.nd rfl (by first | exact Or.inl rfl | exact Or.inr rfl))) (fun _ _ _ _ _ => pts_nil) (fun _ _ _ _ _ => (pe_callTy (show CallR _ _ (fun xs H Q => ∃ p ys, xs = [.ref p] ∧ ((SqL K H p ys ∧ ∀ l, H l = none → Q (.ref l) (upd H l (.tup ys))) ∨ (SqT K H p ys ∧ Q (.ref p) H))) from call_tuple_of) (by rfl) T.f_tuple bt_tuple (pa_cons (pe_callB (show CallR _ _ (rSortedTu K) from cr_sortedTu) (by rfl) T.f_sorted bt_sorted (pa_cons (pv 12) pa_nil)) pa_nil)))) (by rfl)))))))) (pss_one (ps_ret pe_bl)) pss_nil)
      (pss_cons (ps_set (i := 13) sc_law.nd rfl (Or.inr rfl) (pe_f (c_law_weights T) hr (pa_cons (pv 1) (pa_cons (pv 5) pa_nil))))
      (pss_cons (ps_set (i := 14) sc_law.nd rfl (Or.inl rfl) (pe_f (c_heaviest_both T) hr (pa_cons (pv 6) (pa_cons (pv 7) (pa_cons (pv 13) (pa_cons (pv 11) pa_nil))))))
      (pss_cons (ps_if (pt_cmpR (op_eqD hr.units) (pv 10) (pe_lst pa_nil) (nomark _)) (pss_one (ps_ret (pe_and (pe_cmpR op_isN (pv 14) pe_non (nomark _)) (pe_one (pe_cmpR op_le (pe_callB call_len_seq (by rfl) T.f_len bt_len (pa_cons (pe_f (c_curve T) hr (pa_cons (pv 6) (pa_cons (pv 7) (pa_cons (pv 13) pa_nil)))) pa_nil)) (pv 11) (nomark _)))))) pss_nil)
      (pss_cons (ps_set (i := 15) sc_law.nd rfl (Or.inl rfl) (pe_callB (cr_max rfl) (by rfl) T.f_max bt_max (pa_cons (pe_lc (own := [("_law_one", 12)]) (by rfl) sc_law.nd (pi_list (pv 10)) (blkOk_by (own := [("_law_one", 12)]) (N := N_law) (sc := defScope s_law) (by decide +kernel)) (fun _ _ _ _ _ => (pg_name (i := 12) sc_law.nd rfl (by first | exact Or.inl rfl | exact Or.inr rfl))) (fun _ _ _ _ _ => pts_nil) (fun _ _ _ _ _ => (pe_f (c_law_sum T) hr (pa_cons (pv 13) (pa_cons (pv 12) pa_nil))))) pa_nil)))
      (pss_cons (ps_if (PW.pt (pw_or (pt_cmpR op_ne (pe_ix ix_tup (pv 14) pe_int (fun _ _ => rfl)) (pv 15) (nomark _)) (pw_or (pt_cmpR op_ne (pe_f (c_law_sumL T) hr (pa_cons (pv 13) (pa_cons (pe_ix ix_tup (pv 14) pe_int (fun _ _ => rfl)) pa_nil))) (pv 15) (nomark _)) (pw_or1 (pt_cmpR (op_notInD hu65) (pe_callTy call_tuple_of (by rfl) T.f_tuple bt_tuple (pa_cons (pe_ix ix_tup (pv 14) pe_int (fun _ _ => rfl)) pa_nil)) (pe_lc (own := [("_law_one", 12)]) (by rfl) sc_law.nd (pi_list (pv 10)) (blkOk_by (own := [("_law_one", 12)]) (N := N_law) (sc := defScope s_law) (by decide +kernel)) (fun _ _ _ _ _ => (pg_name (i := 12) sc_law.nd rfl (by first | exact Or.inl rfl | exact Or.inr rfl))) (fun _ _ _ _ _ => pts_nil) (fun _ _ _ _ _ => (pe_callTy (show CallR _ _ (fun xs H Q => ∃ p ys, xs = [.ref p] ∧ ((SqL K H p ys ∧ ∀ l, H l = none → Q (.ref l) (upd H l (.tup ys))) ∨ (SqT K H p ys ∧ Q (.ref p) H))) from call_tuple_of) (by rfl) T.f_tuple bt_tuple (pa_cons (pe_callB (show CallR _ _ (rSortedTu K) from cr_sortedTu) (by rfl) T.f_sorted bt_sorted (pa_cons (pv 12) pa_nil)) pa_nil)))) (by rfl)))))) (pss_one (ps_ret pe_bl)) pss_nil)
      (pss_cons (ps_set (i := 16) sc_law.nd rfl (Or.inl rfl) (pe_f (c_split T) hr (pa_cons (pv 6) (pa_cons (pv 7) (pa_cons (pv 13) (pa_cons (pv 11) pa_nil))))))
      (pss_cons (ps_for PassesOwn.never rfl (pi_list (pv 10)) (pg_name (i := 12) sc_law.nd rfl (by first | exact Or.inl rfl | exact Or.inr rfl)) (pss_cons (ps_set (i := 17) sc_law.nd rfl (Or.inl rfl) (pe_f (c_split_fault T) hr (pa_cons (pv 6) (pa_cons (pv 7) (pa_cons (pv 13) (pa_cons (pe_callTy call_list_of (by rfl) T.f_list bt_list (pa_cons (pv 12) pa_nil)) (pa_cons (pe_ix ix_tup (pv 16) pe_int (fun _ _ => rfl)) (pa_cons (pe_ix ix_tup (pv 16) pe_int (fun _ _ => rfl)) pa_nil))))))))
      (pss_one (ps_if (pt_cmpR op_ne (pe_cmpR op_isN (pv 17) pe_non (nomark _)) (pe_cmpR op_eq (pe_f (c_law_sum T) hr (pa_cons (pv 13) (pa_cons (pv 12) pa_nil))) (pv 15) (nomark _)) (nomark _)) (pss_one (ps_ret pe_bl)) pss_nil))))
      (pss_cons (ps_setLc (i := 18) (own := [("_law_name", 20)]) (by rfl) sc_law.nd rfl rfl (sw_true rfl rfl rfl (by decide +kernel)) (pi_list (pv 5)) (blkOk_by (own := [("_law_name", 20)]) (N := N_law) (sc := defScope s_law) (by decide +kernel)) (fun _ _ _ _ _ => (pg_name (i := 20) sc_law.nd rfl (by first | exact Or.inl rfl | exact Or.inr rfl))) (fun _ _ _ _ _ => (pts_one (pt_val (pe_callB (show CallR _ _ (rAll K) from (cr_all rfl)) (by rfl) T.f_all bt_all (pa_cons (pe_lc (own := [("_law_one", 12)]) (by rfl) sc_law.nd (show PI _ _ _ (iList K _) from pi_list (pv 10)) (blkOk_by (own := [("_law_one", 12)]) (N := N_law) (by rfl)) (fun _ _ _ _ _ => (pg_name (i := 12) sc_law.nd rfl (by first | exact Or.inl rfl | exact Or.inr rfl))) (fun _ _ _ _ _ => pts_nil) (fun _ _ _ _ _ => (pe_cmpR (show OpR _ _ (rIn K false) from op_in_seq) (pv 20) (pv 12) (by rfl)))) pa_nil))))) (fun _ _ _ _ _ => (pv 20)))
      (pss_cons (ps_setLc (i := 19) (own := [("_law_name", 20)]) (by rfl) sc_law.nd rfl rfl (sw_true rfl rfl rfl (by decide +kernel)) (pi_list (pv 5)) (blkOk_by (own := [("_law_name", 20)]) (N := N_law) (sc := defScope s_law) (by decide +kernel)) (fun _ _ _ _ _ => (pg_name (i := 20) sc_law.nd rfl (by first | exact Or.inl rfl | exact Or.inr rfl))) (fun _ _ _ _ _ => (pts_one (pt_val (pe_callB (show CallR _ _ (rAny K) from (cr_any rfl)) (by rfl) T.f_any bt_any (pa_cons (pe_lc (own := [("_law_one", 12)]) (by rfl) sc_law.nd (show PI _ _ _ (iList K _) from pi_list (pv 10)) (blkOk_by (own := [("_law_one", 12)]) (N := N_law) (by rfl)) (fun _ _ _ _ _ => (pg_name (i := 12) sc_law.nd rfl (by first | exact Or.inl rfl | exact Or.inr rfl))) (fun _ _ _ _ _ => pts_nil) (fun _ _ _ _ _ => (pe_cmpR (show OpR _ _ (rIn K false) from op_in_seq) (pv 20) (pv 12) (by rfl)))) pa_nil))))) (fun _ _ _ _ _ => (pv 20)))
      (pss_one (ps_ret (pe_and (pe_cmpR (op_eqD hr.units) (pe_f (c_needed T) hr (pa_cons (pv 6) (pa_cons (pv 7) pa_nil))) (pv 18) (nomark _)) (pe_one (pe_cmpR (op_eqD hr.units) (pe_f (c_possible T) hr (pa_cons (pv 6) (pa_cons (pv 7) pa_nil))) (pv 19) (nomark _)))))))))))))))))))))))))), ?_⟩
    have w0 : WInv R0 H := fun d nm r e => by cases e
    refine ⟨_, rfl, R0, sa, ns, rfl, w0, hs, fun H1 a sc k1 na nsc st1 => ?_⟩
    -- places, arcs
    refine ⟨_, rfl, R0, a, sc, ns, rfl, k1.w, st1, fun H2 t pa d pl nm en s2 nt npa nd ht hpa hArc ok => ?_⟩
    refine ⟨t, _, rfl, SqT.of ht, rfl, _, _, rfl, _, _, rfl, rfl, ?_⟩
    have pla : (pl.map V.str).length = pl.length := List.length_map _
    have npaa : pa ≠ a := st1.ne npa
    have p2 := ok.p2
    have p5 := ok.p5
    have l8 := ok.l8
    have hei : ∀ t, t ∈ nm → (en t).1 ∈ pl ∧ (en t).2 ∈ pl := fun t ht => ⟨(ok.ei t ht).1, (ok.ei t ht).2.1⟩
    have sok : ∀ x, x ∈ nm → PyData.strOk x = true := fun x hx => name_ok (ok.nn x hx)
    -- root
    refine ⟨_, rfl, _, rfl, _, rfl, pa, _, rfl, .inl (SqL.of hpa), a, sc, ns, _, rfl, by rw [pla]; omega, by rw [pla]; omega, s2.st, fun H3 d3 dr3 st3 d30 d31 => ?_⟩
    rw [pla] at d31
    obtain ⟨root, hroot, _, hix⟩ := pickS (l := pl) d30 d31
    have hpa3 := dr3.at hpa npaa
    refine ⟨pa, _, d3, .str root, rfl, rfl, SqL.of hpa3, hix, ?_⟩
    have estart : L2.start N_law [V.ref sa] = [some (V.ref sa), none, none, none, none, none, none, none, none, none, none, none, none, none, none, none, none, none, none, none, none] := rfl
    simp only [estart, List.set_cons_succ, List.set_cons_zero]
    have s3 := s2.dr dr3 st3
    have hArc3 : ArcS H3 d nm en := ArcS.ka s2.st ((KA.refl a H2).dr dr3) hArc
    -- things
    obtain ⟨kvs, hd3, hks, hv⟩ := hArc3.ob
    refine ⟨_, rfl, d, kvs, nm, rfl, Rd.of hd3, hks, by omega, fun ys g hg hs' ng => ?_⟩
    rw [sorted_is hg hs', srt_of_ss ok.ss]
    have k4 := Kp.upd s3.w ng (o := .lst (nm.map V.str))
    have hg4 : (upd H3 g (.lst (nm.map V.str))) g = some (.lst (nm.map V.str)) := upd_same
    have nga : g ≠ a := st3.ne ng
    generalize upd H3 g (.lst (nm.map V.str)) = H4 at k4 hg4 ⊢
    have hpa4 := k4.at hpa3
    have hArc4 := hArc3.mono k4
    have st4 := st3.kp k4
    -- ties
    have hT0 : TrOk pl nm en root (fun L => @decide (∀ p, p ∈ pl → Rch en L root p) (Classical.propDecidable _)) := ⟨ok, hroot, fun L _ => @decide_eq_true_iff _ (Classical.propDecidable _)⟩
    refine ⟨_, rfl, _, rfl, ?_⟩
    refine fun u du nu ndu _ => ⟨R0, _, u, pa, d, du, pl, nm, en, rfl, (Kp.upd k4.w ndu).mut nu, nu, upd_same, ((Kp.upd k4.w ndu).mut nu).at hpa4, ok.ps, by omega, by omega, ok.pn, hArc4.mono ((Kp.upd k4.w ndu).mut nu), ok.ss, by omega, ok.nn, hei, fun H5 k5 hW => ⟨rfl, ?_⟩⟩
    refine ⟨R0, u, nm, rA pl nm en, rfl, k5.w, ⟨pl, enS en, hW, fun A hA => (gRk_lot fun x hx => hA.sub hx).symm⟩, ok.ss, ok.l8, hT0.R1, sok, fun R1 H6 pF ext1 k6 w6 hF => ?_⟩
    have k46 := k5.trans k6
    have hpa6 := k46.at hpa4
    have hArc6 := hArc4.mono k46
    have st6 := st4.kp k46
    have hg6 := k46.at hg4
    simp only [List.set_cons_succ, List.set_cons_zero]
    -- heads
    refine ⟨_, rfl, _, rfl, _, rfl, by show 1 ≤ sizeLine; decide, fun sl nsl => ?_⟩
    have k7 := Kp.upd w6 nsl (o := .lst [V.str root])
    refine ⟨R1, pa, d, sl, pl, nm, en, root, rB pl nm en root, rfl, k7.w, k7.at hpa6, hArc6.mono k7, upd_same, ok, hT0.R2, fun A hA => cntRk_hRk ok.ps.nodup hei (fun x hx => hA.sub hx), sok, fun R2 H8 pG ext2 k8 w8 hG => ?_⟩
    have k68 := k7.trans k8
    have hF8 := (hF.mono k68).ext ext2
    have hpa8 := k68.at hpa6
    have hArc8 := hArc6.mono k68
    have st8 := st6.kp k68
    have hg8 := k68.at hg6
    simp only [List.set_cons_succ, List.set_cons_zero]
    -- both
    refine ⟨_, rfl, _, rfl, R2, pF, pG, nm, rA pl nm en, rB pl nm en root, rfl, w8, hF8.s, hG.s, fun H9 t9 l1 l2 A X k9 nt9 ht9 hl1 hl2 hA hX i1 i2 lA sX => ?_⟩
    refine ⟨t9, _, rfl, SqT.of ht9, rfl, _, _, rfl, _, _, rfl, rfl, ?_⟩
    simp only [List.set_cons_succ, List.set_cons_zero]
    -- trees
    refine ⟨_, rfl, _, rfl, _, rfl, R2, pa, d, pl, nm, en, root, rfl, k9.w, k9.at hpa8, hArc8.mono k9, ok, hroot, fun H10 lt vts b k10 nlt hlt hb hpr lfd => ?_⟩
    have k810 := k9.trans k10
    have hpa10 := k810.at hpa8
    have hArc10 := hArc8.mono k810
    have st10 := st8.kp k810
    have hg10 := k810.at hg8
    have hF10 := hF8.mono k810
    have hG10 := hG.mono k810
    have hl1_10 := k10.at hl1
    have hl2_10 := k10.at hl2
    have nlta : lt ≠ a := (st8.kp k9).ne nlt
    have hT : TrOk pl nm en root b := ⟨ok, hroot, hb⟩
    obtain ⟨n, hn⟩ : ∃ n, pl.length = n + 1 := ⟨pl.length - 1, by omega⟩
    have hpr' : Paired (lotV H10) vts (trees en nm root pl b) := hpr
    have ltr : (trees en nm root pl b).length ≤ 32768 := Nat.le_trans (List.length_filter_le _ _) lfd
    have okT : ∀ L, L ∈ trees en nm root pl b → ∀ x, x ∈ L → PyData.strOk x = true := fun L hL x hx => sok x ((hT.tree hL).2.1 x hx)
    -- whole
    refine ⟨_, rfl, pa, _, rfl, .inl (SqL.of hpa10), _, _, rfl, rfl, ?_⟩
    have eW : (((pl.map V.str).length : Nat) : Int) - 1 = ((n : Nat) : Int) := by rw [pla, hn]; omega
    simp only [eW, List.set_cons_succ, List.set_cons_zero]
    have eA : decide (A.length = n) = !decide (trees en nm root pl b = []) := by
      by_cases h : trees en nm root pl b = []
      · rw [decide_eq_true h]
        exact decide_eq_false fun e => (hT.mx_eq.mp (by omega)) h
      · rw [decide_eq_false h]
        exact decide_eq_true (by have := hT.mx_eq.mpr h; omega)
    -- (len(lot) == whole) != (reached == all)
    refine ⟨_, rfl, l1, _, rfl, .inl (SqL.of hl1_10), _, rfl, rfl, _, rfl, _, rfl, by show 1 ≤ sizeLine; decide, fun sl2 nsl2 => ?_⟩
    have k11 := Kp.upd k10.w nsl2 (o := .lst [V.str root])
    refine ⟨R2, d, sl2, nm, en, root, rfl, k11.w, hArc10.mono k11, upd_same, ok.l8, fun H12 lf F k12 nlf hlf ndF hF12 => ?_⟩
    have k1012 := k11.trans k12
    refine ⟨lf, _, rfl, .inl (SqL.of hlf), _, rfl, pa, _, rfl, .inl (SqL.of (k1012.at hpa10)), rfl, rfl, _, rfl, ?_⟩
    have eF : decide (F.length = pl.length) = !decide (trees en nm root pl b = []) := by
      have hiff : F.length = pl.length ↔ trees en nm root pl b ≠ [] := by
        rw [full_len ndF ok.ps.nodup (fun y hy => rch_in hroot (fun t ht => (hei t ht).2) ((hF12 y).mp hy)), ← hT.reach]
        exact forall_congr' fun p => forall_congr' fun _ => hF12 p
      by_cases h : trees en nm root pl b = []
      · rw [decide_eq_true h]
        exact decide_eq_false fun e => hiff.mp e h
      · rw [decide_eq_false h]
        exact decide_eq_true (hiff.mpr h)
    refine iteF' (ne_bl ?_) ?_
    · rw [List.length_map, List.length_map, List.length_map, dec_int, dec_int, eA, eF]
    -- (len(lot) == whole) != (trees != [])
    refine ⟨_, rfl, l1, _, rfl, .inl (SqL.of (k1012.at hl1_10)), _, rfl, rfl, _, rfl, Nat.zero_le _, fun e1 ne1 => ?_⟩
    have k13 := Kp.upd k12.w ne1 (o := .lst [])
    have k1013 := k1012.trans k13
    refine ne_nilU (zs := trees en nm root pl b) (k1013.at hlt) (L2.Paired.mapP hpr' fun _ _ h => h.mono k1013) upd_same okT ⟨rfl, _, rfl, ?_⟩
    refine iteF' (ne_bl ?_) ?_
    · rw [List.length_map, dec_int, eA]
    -- both_fault(..) is not None
    refine ⟨_, rfl, _, rfl, _, rfl, _, rfl, R2, pF, pG, l1, l2, nm, A, X, rA pl nm en, rB pl nm en root, rfl, k13.w, (hF10.mono k1013).s, (hG10.mono k1013).s, k1013.at hl1_10, k1013.at hl2_10, hA, hX, i1, i2, sX, fun H14 k14 => ?_⟩
    refine ⟨rfl, _, rfl, iteF ?_⟩
    have k1014 := k1013.trans k14
    have st14 := st10.kp k1014
    have hg14 := k1014.at hg10
    have hlt14 := k1014.at hlt
    have hF14 := hF10.mono k1014
    have hG14 := hG10.mono k1014
    have hl1_14 := k1014.at hl1_10
    have pr14 : Paired (lotV H14) vts (trees en nm root pl b) := L2.Paired.mapP hpr' fun _ _ h => h.mono k1014
    refine ⟨_, rfl, l1, _, rfl, .inl (SqL.of hl1_14), _, rfl, rfl, _, rfl, ?_⟩
    rw [List.length_map, dec_int]
    by_cases htr : trees en nm root pl b = []
    · have hAn : A.length ≠ n := of_decide_eq_false (by rw [eA, decide_eq_true htr] <;> rfl)
      have hmx : mx (rA pl nm en) (rB pl nm en root) nm + 1 ≤ n := by
        have := hT.mx_le
        omega
      rw [decide_eq_false hAn]
      refine iteF (iteF ?_)
      refine ⟨_, rfl, _, rfl, R2, a, sc, g, ns, nm, rfl, k14.w, st14, hg14, nga, ok.ss.nodup, ok.l8, fun H15 wd wt s15 nwd hwd => ?_⟩
      have hF15 := FamB.ka st14 s15.ka hF14
      have hG15 := FamB.ka st14 s15.ka hG14
      simp only [List.set_cons_succ, List.set_cons_zero]
      refine ⟨_, rfl, _, rfl, _, rfl, _, rfl, R2, pF, pG, wd, nm, rA pl nm en, rB pl nm en root, wt, n, rfl, s15.w, hF15.s, hG15.s, hwd, fun H16 v k16 hv => ?_⟩
      have ev : v = .non := by
        rcases hv with ⟨e, _⟩ | ⟨t, l, A', _, _, _, hv, lv⟩
        · exact e
        · have := le_mx hv.lot hv.i1 hv.i2
          omega
      subst ev
      simp only [List.set_cons_succ, List.set_cons_zero]
      have hlt15 := s15.at hlt14 nlta
      have pr15 : Paired (lotV H15) vts (trees en nm root pl b) := L2.Paired.mapP pr14 fun _ _ h => lotV.ka st14 s15.ka h
      refine ⟨_, rfl, Nat.zero_le _, fun e2 ne2 => ?_⟩
      have k17 := Kp.upd k16.w ne2 (o := .lst [])
      have k1517 := k16.trans k17
      refine eq_nilU (zs := trees en nm root pl b) (k1517.at hlt15) (L2.Paired.mapP pr15 fun _ _ h => h.mono k1517) upd_same okT ⟨_, rfl, ?_⟩
      rw [decide_eq_true htr]
      refine iteT ?_
      refine ⟨_, rfl, rfl, _, rfl, iteT' (decide_eq_true rfl) ?_⟩
      refine ⟨_, rfl, _, rfl, _, rfl, R2, pF, pG, wd, nm, rA pl nm en, rB pl nm en root, wt, rfl, k17.w, (hF15.mono k1517).s, (hG15.mono k1517).s, k1517.at hwd, fun H18 lc ys k18 hlc hys => ?_⟩
      refine ⟨lc, _, rfl, .inl (SqL.of hlc), _, rfl, _, _, rfl, rfl, ?_⟩
      have e9 : decide (((ys.length : Nat) : Int) ≤ ((n : Nat) : Int)) = true := decide_eq_true (by omega)
      show Q (.bl (decide (((ys.length : Nat) : Int) ≤ ((n : Nat) : Int)))) H18
      rw [e9]
      exact q H18
    · have hAn : A.length = n := of_decide_eq_true (by rw [eA, decide_eq_false htr] <;> rfl)
      rw [decide_eq_true hAn]
      refine iteT ?_
      have hin : ∀ L, L ∈ trees en nm root pl b → L.length = n := fun L hL => by
        have := (hT.tree hL).2.2.2.2
        omega
      -- tuple(lot) not in ..
      refine ⟨_, rfl, l1, _, rfl, .inl ⟨SqL.of hl1_14, fun z nz => ?_⟩⟩
      have k15 := Kp.upd k14.w nz (o := .tup (A.map V.str))
      have hz15 : (upd H14 z (.tup (A.map V.str))) z = some (.tup (A.map V.str)) := upd_same
      generalize upd H14 z (.tup (A.map V.str)) = H15 at k15 hz15 ⊢
      obtain ⟨its, rfl, etr, hits⟩ := paired_zip pr14
      have itl : its.length ≤ 32768 := by
        have := ltr
        rw [etr, List.length_map] at this
        exact this
      have hx2 : ∀ x, x ∈ its → x.2 ∈ trees en nm root pl b := fun x hx => by rw [etr]; exact List.mem_map.mpr ⟨x, hx, rfl⟩
      have okS : ∀ L, L ∈ (its.map fun x => srt x.2) → ∀ y, y ∈ L → PyData.strOk y = true := fun L hL y hy => by
        obtain ⟨x, hx, rfl⟩ := List.mem_map.mp hL
        exact okT x.2 (hx2 x hx) y (mem_srt.mp hy)
      have hsrt : ∀ B : List Str, (∃ L, L ∈ trees en nm root pl b ∧ srt L = B) → B ∈ its.map fun x => srt x.2 := fun B ⟨L, hL, e⟩ => by
        rw [etr] at hL
        obtain ⟨x, hx, rfl⟩ := List.mem_map.mp hL
        exact List.mem_map.mpr ⟨x, hx, e⟩
      have hlt15 := k15.at hlt14
      refine ⟨_, rfl, lt, rfl, ⟨_, SqL.of hlt15⟩, fun D hD => ?_⟩
      refine lcG hD (src_lst (c := (·.1)) (its := its) hlt15) k15.w (by omega) (fun x v H => lotV H v (srt x.2)) (fun _ => true) (fun x => _) (fun x v Ha Hb kk h => h.mono kk) (fun x v Ha xs ys hx h => h.updl hx) (fun x => ?_) (fun x hx H3 k3 QG qg => qg) (fun x hx H3 k3 QT qt => qt H3 (Kp.refl k3.w)) (fun x hx hT' xs H3 k3 hDD Q' q' => ?_) fun H16 ys k16 e16 pr16 => ?_
      · exact wipe1 _ 12 _
      · obtain ⟨xt, ex, hxt⟩ := hits x hx
        rw [ex]
        refine ⟨_, rfl, xt, x.2, rfl, SqT.of ((k15.trans k3).at hxt), by have := hin x.2 (hx2 x hx); omega, fun ys g2 hg2 hs2 ng2 => ?_⟩
        rw [sorted_is hg2 hs2]
        have kg := Kp.upd k3.w ng2 (o := .lst ((srt x.2).map V.str))
        exact ⟨g2, _, rfl, .inl ⟨SqL.of upd_same, fun z2 nz2 => q' _ _ (kg.new nz2) ⟨z2, rfl, upd_same⟩⟩⟩
      rw [List.filter_eq_self.mpr (fun _ _ => rfl)] at pr16
      refine notin_tups (k16.at hz15) e16 (paired_srt pr16) (fun x hx => sok x (hA.sub hx)) okS (hsrt A (hT.of_lot hA i1 i2 (by omega))) ⟨_, rfl, iteF ?_⟩
      have k1416 := k15.trans k16
      have st16 := st14.kp k1416
      have hg16 := k1416.at hg14
      have hlt16 := k1416.at hlt14
      have hF16 := hF14.mono k1416
      have hG16 := hG14.mono k1416
      -- weights
      refine ⟨_, rfl, _, rfl, R2, a, sc, g, ns, nm, rfl, k16.w, st16, hg16, nga, ok.ss.nodup, ok.l8, fun H17 wd wt s17 nwd hwd => ?_⟩
      have hF17 := FamB.ka st16 s17.ka hF16
      have hG17 := FamB.ka st16 s17.ka hG16
      have hlt17 := s17.at hlt16 nlta
      have hg17 := s17.at hg16 nga
      have hits17 : ∀ x, x ∈ its → lotV H17 x.1 x.2 := fun x hx => lotV.ka st16 s17.ka ((hits x hx).mono k1416)
      simp only [List.set_cons_succ, List.set_cons_zero]
      -- told
      refine ⟨_, rfl, _, rfl, _, rfl, _, rfl, R2, pF, pG, wd, nm, rA pl nm en, rB pl nm en root, wt, n, rfl, s17.w, hF17.s, hG17.s, hwd, fun H18 v k18 hv => ?_⟩
      have hmx : mx (rA pl nm en) (rB pl nm en root) nm = n := by omega
      obtain ⟨tt, lb, B, rfl, htt, hlb, hB, lB⟩ : ∃ t l B, v = .ref t ∧ H18 t = some (.tup [.int (B.map wt).sum, .ref l]) ∧ H18 l = some (.lst (B.map V.str)) ∧ HvL (rA pl nm en) (rB pl nm en root) nm wt B ∧ B.length = n := by
        rcases hv with ⟨_, h⟩ | h
        · omega
        · exact h
      have hlt18 := k18.at hlt17
      simp only [List.set_cons_succ, List.set_cons_zero]
      refine ⟨_, rfl, Nat.zero_le _, fun e2 ne2 => ?_⟩
      have k19 := Kp.upd k18.w ne2 (o := .lst [])
      have k1719 := k18.trans k19
      have hits19 : ∀ x, x ∈ its → lotV (upd H18 e2 (.lst [])) x.1 x.2 := fun x hx => (hits17 x hx).mono k1719
      have hen2 : (upd H18 e2 (.lst [])) e2 = some (.lst []) := upd_same
      generalize upd H18 e2 (.lst []) = H19 at k19 k1719 hits19 hen2 ⊢
      refine eq_nilU (zs := trees en nm root pl b) (k19.at hlt18) (by rw [etr]; exact paired_of_zip its hits19) hen2 okT ⟨_, rfl, ?_⟩
      rw [decide_eq_false htr]
      refine iteF ?_
      -- best
      have hlt19 := k19.at hlt18
      have hwd19 := k1719.at hwd
      have x60 : ∀ x, x ∈ its → x.2.length ≤ 60 := fun x hx => by have := hin x.2 (hx2 x hx); omega
      have xsub : ∀ x, x ∈ its → ∀ y, y ∈ x.2 → y ∈ nm := fun x hx => (hT.tree (hx2 x hx)).2.1
      refine ⟨_, rfl, lt, rfl, ⟨_, SqL.of hlt19⟩, fun D2 hD2 => ?_⟩
      refine lcG hD2 (src_lst (c := (·.1)) (its := its) hlt19) k19.w (by omega) (fun x v _ => v = .int (x.2.map wt).sum) (fun _ => true) (fun x => _) (fun x v Ha Hb kk h => h) (fun x v Ha xs ys hx h => h) (fun x => ?_) (fun x hx H3 k3 QG qg => qg) (fun x hx H3 k3 QT qt => qt H3 (Kp.refl k3.w)) (fun x hx hT' xs H3 k3 hDD Q' q' => ?_) fun H20 ys2 k20 e20 pr20 => ?_
      · exact wipe1 _ 12 _
      · obtain ⟨xt, ex, hxt⟩ := hits19 x hx
        rw [ex]
        exact ⟨_, rfl, _, rfl, R2, wd, xt, nm, x.2, wt, rfl, k3.w, k3.at hwd19, k3.at hxt, xsub x hx, x60 x hx, fun H4 k4 => q' _ H4 k4 rfl⟩
      rw [List.filter_eq_self.mpr (fun _ _ => rfl)] at pr20
      have eys : ys2 = (its.map fun x => (x.2.map wt).sum).map V.int := by
        rw [List.map_map]
        exact paired_map pr20
      rw [eys] at e20
      refine ⟨D2, _, rfl, SqL.of e20, ?_, fun m hm hle => ?_⟩
      · rw [List.length_map]
        exact List.length_pos_iff.mpr fun e => htr (by rw [etr, e]; rfl)
      have hBl : B.length + 1 = pl.length := by omega
      have em : m = (B.map wt).sum := by
        obtain ⟨x, hx, e⟩ := List.mem_map.mp hm
        have h1 := hT.best hB hBl (hx2 x hx)
        obtain ⟨L, hL, eL⟩ := hT.of_lot hB.lot hB.i1 hB.i2 hBl
        rw [etr] at hL
        obtain ⟨x', hx', rfl⟩ := List.mem_map.mp hL
        have h2 : (x'.2.map wt).sum ≤ m := hle _ (List.mem_map.mpr ⟨x', hx', rfl⟩)
        have e' : (x.2.map wt).sum = m := e
        rw [← sum_srt wt x'.2, eL] at h2
        omega
      subst em
      have k1820 := k19.trans k20
      have htt20 := k1820.at htt
      have hlb20 := k1820.at hlb
      have hwd20 := k20.at hwd19
      simp only [List.set_cons_succ, List.set_cons_zero]
      -- told[0] != best
      refine ⟨_, rfl, tt, _, 0, _, rfl, rfl, SqT.of htt20, rfl, _, rfl, rfl, _, rfl, iteF' (ne_int rfl) ?_⟩
      -- sum(told[1]) != best
      refine ⟨_, rfl, _, rfl, tt, _, 1, _, rfl, rfl, SqT.of htt20, rfl, R2, wd, lb, nm, B, wt, rfl, k20.w, hwd20, hlb20, fun x hx => hB.lot.sub hx, by omega, fun H21 k21 => ?_⟩
      refine ⟨_, rfl, rfl, _, rfl, iteF' (ne_int rfl) ?_⟩
      -- tuple(told[1]) not in ..
      refine ⟨_, rfl, tt, _, 1, _, rfl, rfl, SqT.of (k21.at htt20), rfl, lb, _, rfl, .inl ⟨SqL.of (k21.at hlb20), fun z2 nz2 => ?_⟩⟩
      have k22 := Kp.upd k21.w nz2 (o := .tup (B.map V.str))
      have hz22 : (upd H21 z2 (.tup (B.map V.str))) z2 = some (.tup (B.map V.str)) := upd_same
      generalize upd H21 z2 (.tup (B.map V.str)) = H22 at k22 hz22 ⊢
      have k1922 := (k20.trans k21).trans k22
      have hlt22 := k1922.at hlt19
      refine ⟨_, rfl, lt, rfl, ⟨_, SqL.of hlt22⟩, fun D3 hD3 => ?_⟩
      refine lcG hD3 (src_lst (c := (·.1)) (its := its) hlt22) k22.w (by omega) (fun x v H => lotV H v (srt x.2)) (fun _ => true) (fun x => _) (fun x v Ha Hb kk h => h.mono kk) (fun x v Ha xs ys hx h => h.updl hx) (fun x => ?_) (fun x hx H3 k3 QG qg => qg) (fun x hx H3 k3 QT qt => qt H3 (Kp.refl k3.w)) (fun x hx hT' xs H3 k3 hDD Q' q' => ?_) fun H23 ys3 k23 e23 pr23 => ?_
      · exact wipe1 _ 12 _
      · obtain ⟨xt, ex, hxt⟩ := hits19 x hx
        rw [ex]
        refine ⟨_, rfl, xt, x.2, rfl, SqT.of ((k1922.trans k3).at hxt), by have := hin x.2 (hx2 x hx); omega, fun ys g2 hg2 hs2 ng2 => ?_⟩
        rw [sorted_is hg2 hs2]
        have kg := Kp.upd k3.w ng2 (o := .lst ((srt x.2).map V.str))
        exact ⟨g2, _, rfl, .inl ⟨SqL.of upd_same, fun z2 nz2 => q' _ _ (kg.new nz2) ⟨z2, rfl, upd_same⟩⟩⟩
      rw [List.filter_eq_self.mpr (fun _ _ => rfl)] at pr23
      refine notin_tups (k23.at hz22) e23 (paired_srt pr23) (fun x hx => sok x (hB.lot.sub hx)) okS (hsrt B (hT.of_lot hB.lot hB.i1 hB.i2 hBl)) ⟨_, rfl, iteF ?_⟩
      have k1923 := k1922.trans k23
      have k1723 := k1719.trans k1923
      -- split
      refine ⟨_, rfl, _, rfl, _, rfl, _, rfl, R2, pF, pG, wd, nm, rA pl nm en, rB pl nm en root, wt, n, rfl, k23.w, (hF17.mono k1723).s, (hG17.mono k1723).s, k1723.at hwd, fun H24 v24 k24 hv24 => ?_⟩
      obtain ⟨tp, f1, f2, C, wf, wg, rfl, htp, hf1, hf2, hsum, hC, lC, c1, c2⟩ : ∃ t f g A wf wg, v24 = .ref t ∧ H24 t = some (.tup [.ref f, .ref g]) ∧ H24 f = some (.dK (wtD nm wf)) ∧ H24 g = some (.dK (wtD nm wg)) ∧ (∀ x, wf x + wg x = wt x) ∧
          HvL (rA pl nm en) (rB pl nm en root) nm wt A ∧ A.length = n ∧ NoTr (rA pl nm en) nm A wf ∧ NoTr (rB pl nm en root) nm A wg := by
        rcases hv24 with ⟨_, h⟩ | h
        · omega
        · exact h
      have hCl : C.length + 1 = pl.length := by omega
      have eC : (C.map wt).sum = (B.map wt).sum := by
        obtain ⟨L, hL, eL⟩ := hT.of_lot hB.lot hB.i1 hB.i2 hBl
        obtain ⟨M, hM, eM⟩ := hT.of_lot hC.lot hC.i1 hC.i2 hCl
        have h1 := hT.best hC hCl hL
        have h2 := hT.best hB hBl hM
        rw [← sum_srt wt L, eL] at h1
        rw [← sum_srt wt M, eM] at h2
        omega
      have k1724 := k1723.trans k24
      have hlt24 := (k1923.trans k24).at hlt19
      have hwd24 := k1724.at hwd
      have hF24 := hF17.mono k1724
      have hG24 := hG17.mono k1724
      have hits24 : ∀ x, x ∈ its → lotV H24 x.1 x.2 := fun x hx => (hits17 x hx).mono k1724
      have hg24 := k1724.at hg17
      simp only [List.set_cons_succ, List.set_cons_zero]
      -- each tree
      refine ⟨_, rfl, lt, rfl, ⟨_, SqL.of hlt24⟩, ?_⟩
      refine forG (G := fun H5 => H5 lt = some (.lst (its.map (·.1)))) (src_lstG (c := (·.1)) (its := its) fun _ g => g)
        (fun i σ H5 => ∃ (v12 v17 : Option V), σ = [some (.ref sa), some (.ref a), some (.ref pa), some (.ref d), some (.str root), some (.ref g), some (.ref pF), some (.ref pG), some (.ref l1), some (.ref l2), some (.ref lt), some (.int n), v12, some (.ref wd), some (.ref tt), some (.int (B.map wt).sum), some (.ref tp), v17, none, none, none] ∧ Kp R2 H24 H5)
        (fun i σ H5 ⟨_, _, _, k⟩ => k.at hlt24) ⟨none, none, rfl, Kp.refl k24.w⟩ ?_ ?_
      · rintro i x σ H5 hxi ⟨v12, v17, rfl, k5⟩
        have hx := List.mem_of_getElem? hxi
        obtain ⟨xt, ex, hxt⟩ := hits24 x hx
        obtain ⟨nd5, sub5, j1, j2, l5⟩ := hT.tree (hx2 x hx)
        rw [ex]
        refine ⟨_, rfl, _, rfl, _, rfl, _, rfl, xt, _, rfl, .inr (SqT.of (k5.at hxt)), fun lx nlx => ?_⟩
        have k6 := Kp.upd k5.w nlx (o := .lst (x.2.map V.str))
        have k56 := k5.trans k6
        refine ⟨_, rfl, tp, _, 0, _, rfl, rfl, SqT.of (k56.at htp), rfl, _, rfl, tp, _, 1, _, rfl, rfl, SqT.of (k56.at htp), rfl, ?_⟩
        refine ⟨R2, pF, pG, wd, lx, f1, f2, nm, x.2, rA pl nm en, rB pl nm en root, wt, wf, wg, rfl, k6.w, (hF24.mono k56).s, (hG24.mono k56).s, k56.at hwd24, upd_same, k56.at hf1, k56.at hf2, hsum, nd5, sub5, j1, j2, fun H7 v7 k7 hv7 => ?_⟩
        have k57 := k56.trans k7
        refine ⟨_, rfl, rfl, _, rfl, _, rfl, R2, wd, xt, nm, x.2, wt, rfl, k7.w, k57.at hwd24, k57.at hxt, sub5, x60 x hx, fun H8 k8 => ?_⟩
        refine ⟨_, rfl, rfl, rfl, _, rfl, iteF' (ne_bl ?_) ⟨_, _, rfl, k57.trans k8⟩⟩
        have h1 := hT.split hsum hC hCl c1 c2 (hx2 x hx)
        by_cases hc : v7 = .non
        · rw [decide_eq_true hc]
          have h2 := h1.mp (hv7.mp hc)
          exact (decide_eq_true (by rw [h2, eC])).symm
        · rw [decide_eq_false hc]
          exact (decide_eq_false fun e => hc (hv7.mpr (h1.mpr (by rw [eC]; exact V.int.inj e)))).symm
      · rintro σ H5 ⟨v12, v17, rfl, k5⟩
        have k1705 := k1724.trans k5
        have hg5 := k5.at hg24
        have hlt5 := k5.at hlt24
        have hits5 : ∀ x, x ∈ its → lotV H5 x.1 x.2 := fun x hx => (hits24 x hx).mono k5
        -- needed ones
        refine ⟨_, rfl, g, rfl, ⟨_, SqL.of hg5⟩, fun D4 hD4 => ?_⟩
        refine lcN hD4 (src_lst (c := V.str) (its := nm) hg5) k5.w (by omega) (fun x => (trees en nm root pl b).all fun L => decide (x ∈ L)) V.str (fun _ => wipe1 _ 20 _) (fun y hy H6 k6 QT qt => ?_) (fun y hy _ H6 k6 Q' q' => ⟨_, rfl, q' H6 (Kp.refl k6.w)⟩) fun H7 k7 e7 => ?_
        · refine ⟨_, rfl, lt, rfl, ⟨_, SqL.of (k6.at hlt5)⟩, fun D5 hD5 => ?_⟩
          refine lcG hD5 (src_lst (c := (·.1)) (its := its) (k6.at hlt5)) k6.w (by omega) (fun x v _ => v = .bl (decide (y ∈ x.2))) (fun _ => true) (fun x => _) (fun x v Ha Hb kk h => h) (fun x v Ha xs ys hx h => h) (fun x => ?_) (fun x hx H3 k3 QG qg => qg) (fun x hx H3 k3 QT qt => qt H3 (Kp.refl k3.w)) (fun x hx hT' xs H3 k3 hDD Q' q' => ?_) fun H8 ys8 k8 e8 pr8 => ?_
          · exact wipe1 _ 12 _
          · obtain ⟨xt, ex, hxt⟩ := hits5 x hx
            rw [ex]
            refine ⟨_, rfl, _, rfl, xt, _, rfl, .inr (SqT.of ((k6.trans k3).at hxt)), rfl, flat_strs _, ?_⟩
            rw [if_neg Bool.false_ne_true, inV_str]
            exact q' _ H3 (Kp.refl k3.w) rfl
          rw [List.filter_eq_self.mpr (fun _ _ => rfl)] at pr8
          have e9 : ys8 = (its.map fun x => decide (y ∈ x.2)).map V.bl := by
            rw [List.map_map]
            exact paired_map pr8
          rw [e9] at e8
          refine ⟨D5, _, rfl, SqL.of e8, _, rfl, ?_⟩
          have e10 : (its.map fun x => decide (y ∈ x.2)).all id = (trees en nm root pl b).all fun L => decide (y ∈ L) := by
            rw [etr, List.all_map, List.all_map]; rfl
          rw [e10]
          exact qt H8 k8
        -- possible ones
        have hg7 := k7.at hg5
        have hlt7 := k7.at hlt5
        refine ⟨_, rfl, g, rfl, ⟨_, SqL.of hg7⟩, fun D6 hD6 => ?_⟩
        refine lcN hD6 (src_lst (c := V.str) (its := nm) hg7) k7.w (by omega) (fun x => (trees en nm root pl b).any fun L => decide (x ∈ L)) V.str (fun _ => wipe1 _ 20 _) (fun y hy H8 k8 QT qt => ?_) (fun y hy _ H8 k8 Q' q' => ⟨_, rfl, q' H8 (Kp.refl k8.w)⟩) fun H9 k9' e9 => ?_
        · refine ⟨_, rfl, lt, rfl, ⟨_, SqL.of (k8.at hlt7)⟩, fun D5 hD5 => ?_⟩
          refine lcG hD5 (src_lst (c := (·.1)) (its := its) (k8.at hlt7)) k8.w (by omega) (fun x v _ => v = .bl (decide (y ∈ x.2))) (fun _ => true) (fun x => _) (fun x v Ha Hb kk h => h) (fun x v Ha xs ys hx h => h) (fun x => ?_) (fun x hx H3 k3 QG qg => qg) (fun x hx H3 k3 QT qt => qt H3 (Kp.refl k3.w)) (fun x hx hT' xs H3 k3 hDD Q' q' => ?_) fun H10' ys8 k10' e8 pr8 => ?_
          · exact wipe1 _ 12 _
          · obtain ⟨xt, ex, hxt⟩ := hits5 x hx
            rw [ex]
            refine ⟨_, rfl, _, rfl, xt, _, rfl, .inr (SqT.of (((k7.trans k8).trans k3).at hxt)), rfl, flat_strs _, ?_⟩
            rw [if_neg Bool.false_ne_true, inV_str]
            exact q' _ H3 (Kp.refl k3.w) rfl
          rw [List.filter_eq_self.mpr (fun _ _ => rfl)] at pr8
          have e9 : ys8 = (its.map fun x => decide (y ∈ x.2)).map V.bl := by
            rw [List.map_map]
            exact paired_map pr8
          rw [e9] at e8
          refine ⟨D5, _, rfl, SqL.of e8, _, rfl, ?_⟩
          have e10 : (its.map fun x => decide (y ∈ x.2)).any id = (trees en nm root pl b).any fun L => decide (y ∈ L) := by
            rw [etr, List.any_map, List.any_map]; rfl
          rw [e10]
          exact qt H10' k10'
        -- needed(..) == .. and possible(..) == ..
        have k1709 := (k1705.trans k7).trans k9'
        have hF9 := hF17.mono k1709
        have hG9 := hG17.mono k1709
        have okf : ∀ p : Str → Bool, ∀ x, x ∈ nm.filter p → PyData.strOk x = true := fun p x hx => sok x (List.mem_filter.mp hx).1
        refine ⟨_, rfl, _, rfl, R2, pF, pG, nm, rA pl nm en, rB pl nm en root, rfl, k9'.w, hF9, hG9, fun Ha la A1 ka nla hA1 a1 a2 a3 hla => ?_⟩
        rw [hT.need hA1 a1 a2 (by omega)] at hla
        refine ⟨_, rfl, eq_strs hla (ka.at (k9'.at e7)) (okf _) (okf _) ⟨_, rfl, iteT' (decide_eq_true rfl) ?_⟩⟩
        refine ⟨_, rfl, _, rfl, R2, pF, pG, nm, rA pl nm en, rB pl nm en root, rfl, ka.w, hF9.mono ka, hG9.mono ka, fun Hb lb2 A2 kb nlb hA2 b1 b2 b3 hlb2 => ?_⟩
        rw [hT.poss hA2 b1 b2 (by omega)] at hlb2
        refine ⟨_, rfl, eq_strs hlb2 (kb.at (ka.at e9)) (okf _) (okf _) ?_⟩
        rw [decide_eq_true rfl]
        exact q Hb
end
end Bw
set_option Elab.async false
set_option linter.all false
set_option maxRecDepth 100000
set_option maxHeartbeats 0
/-! the end: the head and the law -/
namespace Bz
open PySem PySem.Spec PyProof.Rows L2 Bt Bw
theorem facts {P : Program} {w : World} {K : PySem.W.Frag} {h : Heap} {mg : Str → Option Value} {f : Addr} (X : K.In h) (G : h.Ns mainGlobals mg) (hfa : mg ("law" : Str) = some (.ref f)) (c : He.SaysD fa fn K) :
    ∃ fd : FuncData, (∀ (s : Shared) (v : Value), BindsTo s fd ⟨[v], []⟩ [("_law_script", v)]) ∧ ∀ base : Heap, K.In base → base.Ns mainGlobals mg → FnOk P w K mg base CX0 13 f fd ["_law_script"] (spLaw K) := by
  have T := txt_of X G c
  obtain ⟨⟨fd, F⟩, g⟩ := T.d_law
  have e := hfa.symm.trans g
  cases e
  have b := FunD.bindsA (ps := ["_law_script"]) F fun _ _ _ _ _ _ us hl => match us, hl with | [_], _ => rfl
  exact ⟨fd, fun s v => b s [v] rfl, fun base _ _ => law_ok T F⟩
end Bz
open PySem PySem.W PySem.Calls PyProof.Rows
theorem PySem.Challenge.cw_bothfree_k83_whole_trees_of_one_root_holds : PySem.Challenge.rw_bothfree_k83_whole_trees_of_one_root.Holds := by
  w_on; o_law
  refine HandSHeadRun.head_any (r := OpenLaw.row PySem.Challenge.rw_bothfree_k83_whole_trees_of_one_root) (q := view (OpenLaw.row PySem.Challenge.rw_bothfree_k83_whole_trees_of_one_root).prog [97]) (H := Bt.hk) (ob := Bt.ob) (M := 9000) (loose := Bt.loose) (d := HandSHeadRun.topDef (OpenLaw.row PySem.Challenge.rw_bothfree_k83_whole_trees_of_one_root).prog 97) (kwd := []) Bt.ob_eq
    (by kernel_rfl) (fun s => by kernel_rfl) Bt.run (by kernel_rfl) (by kernel_rfl) (by kernel_rfl) (by rfl) (by first | assumption | decide +kernel) (by decide +kernel) ⟨rfl, rfl, rfl, rfl, rfl, by decide +kernel⟩ ?hw ?hc
  case hw => w_witness2
  case hc =>
    refine L2.walk_ofE (l := PySem.Challenge.rw_bothfree_k83_whole_trees_of_one_root) (n := 63) (k := 13) (x := "_law_script") (CX := L2.CX0) rfl (by decide) (by kernel_rfl) ⟨rfl, by decide, by decide⟩ ?F (fun _ _ _ _ z => z)
    intro w mg fa h Y G hmg0
    obtain ⟨K, KX, c⟩ := Y
    have hmg : mg ("law" : PySem.Str) = some (.ref fa) := by
      have e : (HandSHeadRun.topDef (OpenLaw.row PySem.Challenge.rw_bothfree_k83_whole_trees_of_one_root).prog 97).name = ("law" : PySem.Str) := by kernel_rfl
      rw [← e]
      exact hmg0
    obtain ⟨fd, hb, hF⟩ := Bz.facts (P := (PySem.Challenge.rw_bothfree_k83_whole_trees_of_one_root).prog) (w := w) KX G hmg c
    exact ⟨K, fd, Bw.spLaw K, KX, hb, fun H a ns hl _ hS => ⟨a, ns, rfl, hS, fun _ => rfl⟩, hF⟩
