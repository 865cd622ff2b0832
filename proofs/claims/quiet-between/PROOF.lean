import PyProof.Rows.All
import Wide.All
import OpenK.AllK
import Wide.FinOn
import HandS.ForMost
import HandS.Property
import HandS.Defaults
import HandS.Head0
import HandS.Head1
import HandS.Head2
import HandS.HeadEnd
import HandS.HeadHook1
import HandS.HeadHook2
import HandS.HeadNt
import PySem.Challenge.RW_quietturns_k76_whole_quiet_between
import HandS.IsInst
import HandS.DictComp
import HandS.Conv
import HandS.Style
import HandS.Deep
import HandS.Zip
import HandS.Flow
import HandS.Wide
import HandS.SortInts
import HandS.TupSets
import HandS.SetFor
import HandS.TupAny
import HandS.Codes
import HandS.Walk
import HandS.TupLe
import HandS.NoneIn
import HandS.Steps
import HandS.TupLen
import KE.KSortTupG
import KE.SortData
import HandS.Star
import HandS.SortKw
import KE.DataMinMax
import PyProof.Rows.RuleB_pow
import KE.GoesMore
import HandS.Small
set_option Elab.async false
set_option linter.all false
set_option maxRecDepth 100000
set_option maxHeartbeats 0
namespace QH
open PySem PySem.Spec PyProof.Rows L2
def top (i : Nat) : Stmt := PySem.Challenge.pw_quietturns_k76_whole_quiet_between.main.body.getD i (.Pass ⟨0, 0, 0, 0⟩)
abbrev s_is_integer : Stmt := top 13
abbrev s_is_from : Stmt := top 14
abbrev s_is_name : Stmt := top 15
abbrev s_is_one_of : Stmt := top 16
abbrev s_is_tuple_of : Stmt := top 17
abbrev s_is_tuple_to : Stmt := top 18
abbrev s_are_ascending : Stmt := top 19
abbrev s_is_ascending_of : Stmt := top 20
abbrev s_are_routers : Stmt := top 26
abbrev s_is_link : Stmt := top 27
abbrev s_are_links : Stmt := top 28
abbrev s_Net_init : Stmt := inClass (top 29) 0
abbrev s_Net_routers : Stmt := inClass (top 29) 1
abbrev s_Net_links : Stmt := inClass (top 29) 2
abbrev s_Net_with_link : Stmt := inClass (top 29) 5
abbrev s_Net_without : Stmt := inClass (top 29) 6
abbrev s_check_routers : Stmt := top 30
abbrev s_link_of : Stmt := top 31
abbrev s_lengths_of : Stmt := top 32
abbrev s_distances_to : Stmt := top 34
abbrev s_nexts_by : Stmt := top 35
abbrev s_tables_by : Stmt := top 36
abbrev s_next_tables : Stmt := top 37
abbrev s_check_like : Stmt := top 42
abbrev s_links_towards : Stmt := top 43
abbrev s_ranked : Stmt := top 44
abbrev s_ring_in : Stmt := top 45
abbrev s_ring_for : Stmt := top 46
abbrev s_turns : Stmt := top 47
abbrev s_loss_for : Stmt := top 48
abbrev s_loss : Stmt := top 49
abbrev s_ranks_of : Stmt := top 50
abbrev s_judged : Stmt := top 51
abbrev s_Change_init : Stmt := inClass (top 53) 0
abbrev s_Change_detour : Stmt := inClass (top 53) 1
abbrev s_Change_point : Stmt := inClass (top 53) 2
abbrev s_Change_stands : Stmt := inClass (top 53) 3
abbrev s_Change_stretch : Stmt := inClass (top 53) 4
abbrev s_Change_tables : Stmt := inClass (top 53) 5
abbrev s_is_shift : Stmt := top 54
abbrev s_shifted : Stmt := top 55
abbrev s_all_points : Stmt := top 56
abbrev s_turns_between : Stmt := top 59
abbrev s_next_stop : Stmt := top 60
abbrev s_rising_steps : Stmt := top 61
abbrev s_is_before : Stmt := top 62
abbrev s_checked_change : Stmt := top 63
abbrev s_steps : Stmt := top 64
abbrev s__law_pot : Stmt := top 66
abbrev s__law_take : Stmt := top 67
abbrev s__law_pots : Stmt := top 68
abbrev s__law_of : Stmt := top 69
abbrev s__law_turned : Stmt := top 70
abbrev s__law_names : Stmt := top 71
abbrev s__law_far : Stmt := top 72
abbrev s__law_pairs : Stmt := top 73
abbrev s__law_world : Stmt := top 74
abbrev s__law_made : Stmt := top 75
abbrev s__law_lengths : Stmt := top 76
abbrev s__law_far_from : Stmt := top 77
abbrev s__law_with : Stmt := top 78
abbrev s__law_without : Stmt := top 79
abbrev s__law_link_of : Stmt := top 80
abbrev s__law_point_of : Stmt := top 81
abbrev s__law_book : Stmt := top 82
abbrev s__law_times : Stmt := top 83
abbrev s__law_shift : Stmt := top 84
abbrev s__law_word : Stmt := top 85
abbrev s__law_case_right : Stmt := top 86
abbrev s_law : Stmt := top 87
/-- the getter of the property at p -/
def propG (K : PySem.W.Frag) (p : Addr) : Addr := match PySem.W.recIn K p "property" with
  | some (.ref g :: _) => g
  | _ => 0
def propB (K : PySem.W.Frag) (C f : Str) : Bool :=
  He.eqO (PySem.W.findIn K (.ref (He.ga K C)) f) (some (some (.ref (He.ma K (He.ga K C) f)))) &&
  (He.eqO (PySem.W.specialIn K (.ref (He.ma K (He.ga K C) f)) "__get__") (some (some (.builtin "property.__get__"))) &&
  (decide (PySem.W.takesIn K (.ref (He.ma K (He.ga K C) f)) = some true) &&
  (match PySem.W.recIn K (He.ma K (He.ga K C) f) "property" with
  | some (.ref _ :: _) => true
  | _ => false)))
def d_is_integer : He5.DefA := ⟨fun K => He.fAd K ("is_integer", none), "is_integer", "is_integer", defArgs s_is_integer, defBody s_is_integer, defScope s_is_integer, [], []⟩
def d_is_from : He5.DefA := ⟨fun K => He.fAd K ("is_from", none), "is_from", "is_from", defArgs s_is_from, defBody s_is_from, defScope s_is_from, [], []⟩
def d_is_name : He5.DefA := ⟨fun K => He.fAd K ("is_name", none), "is_name", "is_name", defArgs s_is_name, defBody s_is_name, defScope s_is_name, [], []⟩
def d_is_one_of : He5.DefA := ⟨fun K => He.fAd K ("is_one_of", none), "is_one_of", "is_one_of", defArgs s_is_one_of, defBody s_is_one_of, defScope s_is_one_of, [], []⟩
def d_is_tuple_of : He5.DefA := ⟨fun K => He.fAd K ("is_tuple_of", none), "is_tuple_of", "is_tuple_of", defArgs s_is_tuple_of, defBody s_is_tuple_of, defScope s_is_tuple_of, [], []⟩
def d_is_tuple_to : He5.DefA := ⟨fun K => He.fAd K ("is_tuple_to", none), "is_tuple_to", "is_tuple_to", defArgs s_is_tuple_to, defBody s_is_tuple_to, defScope s_is_tuple_to, [], []⟩
def d_are_ascending : He5.DefA := ⟨fun K => He.fAd K ("are_ascending", none), "are_ascending", "are_ascending", defArgs s_are_ascending, defBody s_are_ascending, defScope s_are_ascending, [], []⟩
def d_is_ascending_of : He5.DefA := ⟨fun K => He.fAd K ("is_ascending_of", none), "is_ascending_of", "is_ascending_of", defArgs s_is_ascending_of, defBody s_is_ascending_of, defScope s_is_ascending_of, [], []⟩
def d_are_routers : He5.DefA := ⟨fun K => He.fAd K ("are_routers", none), "are_routers", "are_routers", defArgs s_are_routers, defBody s_are_routers, defScope s_are_routers, [], []⟩
def d_is_link : He5.DefA := ⟨fun K => He.fAd K ("is_link", none), "is_link", "is_link", defArgs s_is_link, defBody s_is_link, defScope s_is_link, [], []⟩
def d_are_links : He5.DefA := ⟨fun K => He.fAd K ("are_links", none), "are_links", "are_links", defArgs s_are_links, defBody s_are_links, defScope s_are_links, [], []⟩
def d_Net_init : He5.DefA := ⟨fun K => He.fAd K ("Net", some "__init__"), "__init__", "Net.__init__", defArgs s_Net_init, defBody s_Net_init, defScope s_Net_init, [], []⟩
def d_Net_routers : He5.DefA := ⟨fun K => propG K (He.ma K (He.ga K "Net") "routers"), "routers", "Net.routers", defArgs s_Net_routers, defBody s_Net_routers, defScope s_Net_routers, [], []⟩
def d_Net_links : He5.DefA := ⟨fun K => propG K (He.ma K (He.ga K "Net") "links"), "links", "Net.links", defArgs s_Net_links, defBody s_Net_links, defScope s_Net_links, [], []⟩
def d_Net_with_link : He5.DefA := ⟨fun K => He.fAd K ("Net", some "with_link"), "with_link", "Net.with_link", defArgs s_Net_with_link, defBody s_Net_with_link, defScope s_Net_with_link, [], []⟩
def d_Net_without : He5.DefA := ⟨fun K => He.fAd K ("Net", some "without"), "without", "Net.without", defArgs s_Net_without, defBody s_Net_without, defScope s_Net_without, [], []⟩
def d_check_routers : He5.DefA := ⟨fun K => He.fAd K ("check_routers", none), "check_routers", "check_routers", defArgs s_check_routers, defBody s_check_routers, defScope s_check_routers, [], []⟩
def d_link_of : He5.DefA := ⟨fun K => He.fAd K ("link_of", none), "link_of", "link_of", defArgs s_link_of, defBody s_link_of, defScope s_link_of, [], []⟩
def d_lengths_of : He5.DefA := ⟨fun K => He.fAd K ("lengths_of", none), "lengths_of", "lengths_of", defArgs s_lengths_of, defBody s_lengths_of, defScope s_lengths_of, [], []⟩
def d_distances_to : He5.DefA := ⟨fun K => He.fAd K ("distances_to", none), "distances_to", "distances_to", defArgs s_distances_to, defBody s_distances_to, defScope s_distances_to, [], []⟩
def d_nexts_by : He5.DefA := ⟨fun K => He.fAd K ("nexts_by", none), "nexts_by", "nexts_by", defArgs s_nexts_by, defBody s_nexts_by, defScope s_nexts_by, [], []⟩
def d_tables_by : He5.DefA := ⟨fun K => He.fAd K ("tables_by", none), "tables_by", "tables_by", defArgs s_tables_by, defBody s_tables_by, defScope s_tables_by, [], []⟩
def d_next_tables : He5.DefA := ⟨fun K => He.fAd K ("next_tables", none), "next_tables", "next_tables", defArgs s_next_tables, defBody s_next_tables, defScope s_next_tables, [], []⟩
def d_check_like : He5.DefA := ⟨fun K => He.fAd K ("check_like", none), "check_like", "check_like", defArgs s_check_like, defBody s_check_like, defScope s_check_like, [], []⟩
def d_links_towards : He5.DefA := ⟨fun K => He.fAd K ("links_towards", none), "links_towards", "links_towards", defArgs s_links_towards, defBody s_links_towards, defScope s_links_towards, [], []⟩
def d_ranked : He5.DefA := ⟨fun K => He.fAd K ("ranked", none), "ranked", "ranked", defArgs s_ranked, defBody s_ranked, defScope s_ranked, [], []⟩
def d_ring_in : He5.DefA := ⟨fun K => He.fAd K ("ring_in", none), "ring_in", "ring_in", defArgs s_ring_in, defBody s_ring_in, defScope s_ring_in, [], []⟩
def d_ring_for : He5.DefA := ⟨fun K => He.fAd K ("ring_for", none), "ring_for", "ring_for", defArgs s_ring_for, defBody s_ring_for, defScope s_ring_for, [], []⟩
def d_turns : He5.DefA := ⟨fun K => He.fAd K ("turns", none), "turns", "turns", defArgs s_turns, defBody s_turns, defScope s_turns, [], []⟩
def d_loss_for : He5.DefA := ⟨fun K => He.fAd K ("loss_for", none), "loss_for", "loss_for", defArgs s_loss_for, defBody s_loss_for, defScope s_loss_for, [], []⟩
def d_loss : He5.DefA := ⟨fun K => He.fAd K ("loss", none), "loss", "loss", defArgs s_loss, defBody s_loss, defScope s_loss, [], []⟩
def d_ranks_of : He5.DefA := ⟨fun K => He.fAd K ("ranks_of", none), "ranks_of", "ranks_of", defArgs s_ranks_of, defBody s_ranks_of, defScope s_ranks_of, [], []⟩
def d_judged : He5.DefA := ⟨fun K => He.fAd K ("judged", none), "judged", "judged", defArgs s_judged, defBody s_judged, defScope s_judged, [], []⟩
def d_Change_init : He5.DefA := ⟨fun K => He.fAd K ("Change", some "__init__"), "__init__", "Change.__init__", defArgs s_Change_init, defBody s_Change_init, defScope s_Change_init, [], []⟩
def d_Change_detour : He5.DefA := ⟨fun K => He.fAd K ("Change", some "detour"), "detour", "Change.detour", defArgs s_Change_detour, defBody s_Change_detour, defScope s_Change_detour, [], []⟩
def d_Change_point : He5.DefA := ⟨fun K => He.fAd K ("Change", some "point"), "point", "Change.point", defArgs s_Change_point, defBody s_Change_point, defScope s_Change_point, [], []⟩
def d_Change_stands : He5.DefA := ⟨fun K => He.fAd K ("Change", some "stands"), "stands", "Change.stands", defArgs s_Change_stands, defBody s_Change_stands, defScope s_Change_stands, [], []⟩
def d_Change_stretch : He5.DefA := ⟨fun K => He.fAd K ("Change", some "stretch"), "stretch", "Change.stretch", defArgs s_Change_stretch, defBody s_Change_stretch, defScope s_Change_stretch, [], []⟩
def d_Change_tables : He5.DefA := ⟨fun K => He.fAd K ("Change", some "tables"), "tables", "Change.tables", defArgs s_Change_tables, defBody s_Change_tables, defScope s_Change_tables, [], []⟩
def d_is_shift : He5.DefA := ⟨fun K => He.fAd K ("is_shift", none), "is_shift", "is_shift", defArgs s_is_shift, defBody s_is_shift, defScope s_is_shift, [], []⟩
def d_shifted : He5.DefA := ⟨fun K => He.fAd K ("shifted", none), "shifted", "shifted", defArgs s_shifted, defBody s_shifted, defScope s_shifted, [], []⟩
def d_all_points : He5.DefA := ⟨fun K => He.fAd K ("all_points", none), "all_points", "all_points", defArgs s_all_points, defBody s_all_points, defScope s_all_points, [], []⟩
def d_turns_between : He5.DefA := ⟨fun K => He.fAd K ("turns_between", none), "turns_between", "turns_between", defArgs s_turns_between, defBody s_turns_between, defScope s_turns_between, [], []⟩
def d_next_stop : He5.DefA := ⟨fun K => He.fAd K ("next_stop", none), "next_stop", "next_stop", defArgs s_next_stop, defBody s_next_stop, defScope s_next_stop, [], []⟩
def d_rising_steps : He5.DefA := ⟨fun K => He.fAd K ("rising_steps", none), "rising_steps", "rising_steps", defArgs s_rising_steps, defBody s_rising_steps, defScope s_rising_steps, [], []⟩
def d_is_before : He5.DefA := ⟨fun K => He.fAd K ("is_before", none), "is_before", "is_before", defArgs s_is_before, defBody s_is_before, defScope s_is_before, [], []⟩
def d_checked_change : He5.DefA := ⟨fun K => He.fAd K ("checked_change", none), "checked_change", "checked_change", defArgs s_checked_change, defBody s_checked_change, defScope s_checked_change, [], []⟩
def d_steps : He5.DefA := ⟨fun K => He.fAd K ("steps", none), "steps", "steps", defArgs s_steps, defBody s_steps, defScope s_steps, [], []⟩
def d__law_pot : He5.DefA := ⟨fun K => He.fAd K ("_law_pot", none), "_law_pot", "_law_pot", defArgs s__law_pot, defBody s__law_pot, defScope s__law_pot, [], []⟩
def d__law_take : He5.DefA := ⟨fun K => He.fAd K ("_law_take", none), "_law_take", "_law_take", defArgs s__law_take, defBody s__law_take, defScope s__law_take, [], []⟩
def d__law_pots : He5.DefA := ⟨fun K => He.fAd K ("_law_pots", none), "_law_pots", "_law_pots", defArgs s__law_pots, defBody s__law_pots, defScope s__law_pots, [], []⟩
def d__law_of : He5.DefA := ⟨fun K => He.fAd K ("_law_of", none), "_law_of", "_law_of", defArgs s__law_of, defBody s__law_of, defScope s__law_of, [], []⟩
def d__law_turned : He5.DefA := ⟨fun K => He.fAd K ("_law_turned", none), "_law_turned", "_law_turned", defArgs s__law_turned, defBody s__law_turned, defScope s__law_turned, [], []⟩
def d__law_names : He5.DefA := ⟨fun K => He.fAd K ("_law_names", none), "_law_names", "_law_names", defArgs s__law_names, defBody s__law_names, defScope s__law_names, [], []⟩
def d__law_far : He5.DefA := ⟨fun K => He.fAd K ("_law_far", none), "_law_far", "_law_far", defArgs s__law_far, defBody s__law_far, defScope s__law_far, [], []⟩
def d__law_pairs : He5.DefA := ⟨fun K => He.fAd K ("_law_pairs", none), "_law_pairs", "_law_pairs", defArgs s__law_pairs, defBody s__law_pairs, defScope s__law_pairs, [], []⟩
def d__law_world : He5.DefA := ⟨fun K => He.fAd K ("_law_world", none), "_law_world", "_law_world", defArgs s__law_world, defBody s__law_world, defScope s__law_world, [], []⟩
def d__law_made : He5.DefA := ⟨fun K => He.fAd K ("_law_made", none), "_law_made", "_law_made", defArgs s__law_made, defBody s__law_made, defScope s__law_made, [], []⟩
def d__law_lengths : He5.DefA := ⟨fun K => He.fAd K ("_law_lengths", none), "_law_lengths", "_law_lengths", defArgs s__law_lengths, defBody s__law_lengths, defScope s__law_lengths, [], []⟩
def d__law_far_from : He5.DefA := ⟨fun K => He.fAd K ("_law_far_from", none), "_law_far_from", "_law_far_from", defArgs s__law_far_from, defBody s__law_far_from, defScope s__law_far_from, [], []⟩
def d__law_with : He5.DefA := ⟨fun K => He.fAd K ("_law_with", none), "_law_with", "_law_with", defArgs s__law_with, defBody s__law_with, defScope s__law_with, [], []⟩
def d__law_without : He5.DefA := ⟨fun K => He.fAd K ("_law_without", none), "_law_without", "_law_without", defArgs s__law_without, defBody s__law_without, defScope s__law_without, [], []⟩
def d__law_link_of : He5.DefA := ⟨fun K => He.fAd K ("_law_link_of", none), "_law_link_of", "_law_link_of", defArgs s__law_link_of, defBody s__law_link_of, defScope s__law_link_of, [], []⟩
def d__law_point_of : He5.DefA := ⟨fun K => He.fAd K ("_law_point_of", none), "_law_point_of", "_law_point_of", defArgs s__law_point_of, defBody s__law_point_of, defScope s__law_point_of, [], []⟩
def d__law_book : He5.DefA := ⟨fun K => He.fAd K ("_law_book", none), "_law_book", "_law_book", defArgs s__law_book, defBody s__law_book, defScope s__law_book, [], []⟩
def d__law_times : He5.DefA := ⟨fun K => He.fAd K ("_law_times", none), "_law_times", "_law_times", defArgs s__law_times, defBody s__law_times, defScope s__law_times, [], []⟩
def d__law_shift : He5.DefA := ⟨fun K => He.fAd K ("_law_shift", none), "_law_shift", "_law_shift", defArgs s__law_shift, defBody s__law_shift, defScope s__law_shift, [], []⟩
def d__law_word : He5.DefA := ⟨fun K => He.fAd K ("_law_word", none), "_law_word", "_law_word", defArgs s__law_word, defBody s__law_word, defScope s__law_word, [], []⟩
def d__law_case_right : He5.DefA := ⟨fun K => He.fAd K ("_law_case_right", none), "_law_case_right", "_law_case_right", defArgs s__law_case_right, defBody s__law_case_right, defScope s__law_case_right, [], []⟩
def d_law : He5.DefA := ⟨fun K => He.fAd K ("law", none), "law", "law", defArgs s_law, defBody s_law, defScope s_law, [], []⟩
def fn : List He5.DefA := [d_is_integer, d_is_from, d_is_name, d_is_one_of, d_is_tuple_of, d_is_tuple_to, d_are_ascending, d_is_ascending_of, d_are_routers, d_is_link, d_are_links, d_Net_init, d_Net_routers, d_Net_links, d_Net_with_link, d_Net_without, d_check_routers, d_link_of, d_lengths_of, d_distances_to, d_nexts_by, d_tables_by, d_next_tables, d_check_like, d_links_towards, d_ranked, d_ring_in, d_ring_for, d_turns, d_loss_for, d_loss, d_ranks_of, d_judged, d_Change_init, d_Change_detour] ++ [d_Change_point, d_Change_stands, d_Change_stretch, d_Change_tables, d_is_shift, d_shifted, d_all_points, d_turns_between, d_next_stop, d_rising_steps, d_is_before, d_checked_change, d_steps, d__law_pot, d__law_take, d__law_pots, d__law_of, d__law_turned, d__law_names, d__law_far, d__law_pairs, d__law_world, d__law_made, d__law_lengths, d__law_far_from, d__law_with, d__law_without, d__law_link_of, d__law_point_of, d__law_book, d__law_times, d__law_shift, d__law_word, d__law_case_right, d_law]
def fa : List He.Fa := [.str "LETTERS" "abcdefghijklmnopqrstuvwxyz", .int "LONGEST_NAME" 8, .int "FEWEST_ROUTERS" 2, .int "MOST_ROUTERS" 8, .int "MOST_LINKS" 16, .int "LINK" 4, .str "TURNS" "turns", .str "LOST" "lost", .str "QUIET" "quiet", .str "STEPS" "steps", .glo "is_integer", .glo "is_from", .glo "is_name", .glo "is_one_of", .glo "is_tuple_of", .glo "is_tuple_to", .glo "are_ascending", .glo "is_ascending_of", .glo "are_routers", .glo "is_link", .glo "are_links", .glo "check_routers", .glo "link_of", .glo "lengths_of", .glo "distances_to", .glo "nexts_by", .glo "tables_by", .glo "next_tables", .glo "check_like", .glo "links_towards"] ++ [.glo "ranked", .glo "ring_in", .glo "ring_for", .glo "turns", .glo "loss_for", .glo "loss", .glo "ranks_of", .glo "judged", .glo "is_shift", .glo "shifted", .glo "all_points", .glo "turns_between", .glo "next_stop", .glo "rising_steps", .glo "is_before", .glo "checked_change", .glo "steps", .glo "_law_pot", .glo "_law_take", .glo "_law_pots", .glo "_law_of", .glo "_law_turned", .glo "_law_names", .glo "_law_far", .glo "_law_pairs", .glo "_law_world", .glo "_law_made", .glo "_law_lengths", .glo "_law_far_from", .glo "_law_with"] ++ [.glo "_law_without", .glo "_law_link_of", .glo "_law_point_of", .glo "_law_book", .glo "_law_times", .glo "_law_shift", .glo "_law_word", .glo "_law_case_right", .glo "law", .glo "Net", .cls "Net", .mkr "Net", .glo "Change", .cls "Change", .mkr "Change", .noat "Net" "own_routers", .noat "Net" "own_links", .noat "Change" "own_net", .noat "Change" "pair", .noat "Change" "least", .noat "Change" "lengths", .noat "Change" "plain", .noat "Change" "ways_over", .meth "Net" "with_link", .meth "Net" "without", .meth "Change" "detour", .meth "Change" "point", .meth "Change" "stands", .meth "Change" "stretch", .meth "Change" "tables"] ++ [.free "isinstance", .free "len", .free "all", .free "zip", .free "range", .free "list", .free "tuple", .free "set", .free "sorted", .free "max", .free "min", .free "abs", .free "int", .free "enumerate", .free "str", .free "bool"]
def obsQ (K : PySem.W.Frag) : He.AlD := ((propB K "Net" "routers" && propB K "Net" "links") && ((fa.all fun f => f.ok K) && fn.all fun d => d.ok K), fn.map fun d => He5.fnA K (d.at_ K))
def valQ : He.AlD := (true, fn.map He5.DefA.val)
def SaysQ (K : PySem.W.Frag) : Prop := obsQ K = valQ
def obsQG (n : Nat) (g : Addr → Option Obj) : He.AlD := obsQ (He.frG g (He5.asA g n))
def hk : PySem.W.Hook where
  α := He.AlD
  obs := fun s => obsQG 5 s.heap.get?
  val := fun _ => valQ
  says := fun _ h => ∃ K : PySem.W.Frag, K.In h ∧ SaysQ K
  of := fun _ _ e => ⟨_, He.frG_in, e⟩
  keeps := fun _ _ _ ⟨K, hK, c⟩ k => ⟨K, PySem.W.Frag.In.keeps hK k, c⟩
abbrev R : PySem.W.OpenRow := PySem.W.OpenLaw.row PySem.Challenge.rw_quietturns_k76_whole_quiet_between
def ob (s : PySem.W.SharedT) : He.AlD := obsQG 5 (HandSHeadRun.getT s)
theorem ob_eq (s : PySem.W.SharedT) : ob s = hk.obs s.abs := by
  have e : HandSHeadRun.getT s = s.abs.heap.get? := funext (HandSHeadRun.getT_eq s)
  show obsQG 5 (HandSHeadRun.getT s) = obsQG 5 s.abs.heap.get?
  rw [e]
def loose : List Str := (["__name__", "NetError", "BadNet", "NoRouter", "BadLink", "BadLength", "TooMany", "NoLink", "Unlike", "BadShift", "LETTERS", "LONGEST_NAME", "is_integer", "is_from", "is_name", "is_one_of", "is_tuple_of", "is_tuple_to", "are_ascending", "is_ascending_of", "FEWEST_ROUTERS", "MOST_ROUTERS", "MOST_LINKS", "LINK", "are_routers", "is_link", "are_links", "Net", "check_routers", "link_of"] : List Str) ++ (["lengths_of", "distances_to", "nexts_by", "tables_by", "next_tables", "TURNS", "LOST", "QUIET", "check_like", "links_towards", "ranked", "ring_in", "ring_for", "turns", "loss_for", "loss", "ranks_of", "judged", "Change", "is_shift", "shifted", "all_points", "STEPS", "turns_between", "next_stop", "rising_steps", "is_before", "checked_change", "steps", "_law_pot"] : List Str) ++ (["_law_take", "_law_pots", "_law_of", "_law_turned", "_law_names", "_law_far", "_law_pairs", "_law_world", "_law_made", "_law_lengths", "_law_far_from", "_law_with", "_law_without", "_law_link_of", "_law_point_of", "_law_book", "_law_times", "_law_shift", "_law_word", "_law_case_right"] : List Str)
theorem run (w : World) : HandSHeadRun.RunEq R (PySem.W.view R.prog [87]) hk ob 20000 loose w := by
  intro os
  kernel_rfl
end QH
set_option linter.all false
namespace QT
section
variable {α : Type} [DecidableEq α]

/-- arcs with their lengths -/
abbrev Arcs (α : Type) := α → α → Option Int

/-- a walk to d, its length -/
inductive Wk (E : Arcs α) (d : α) : α → Int → Prop
  | nil : Wk E d d 0
  | cons {x y : α} {l m : Int} : E x y = some l → Wk E d y m → Wk E d x (l + m)

def Pos (E : Arcs α) : Prop := ∀ x y l, E x y = some l → 1 ≤ l

theorem Wk.nonneg {E : Arcs α} (hE : Pos E) {d x : α} {m : Int} (h : Wk E d x m) : 0 ≤ m := by
  induction h with
  | nil => omega
  | cons e _ ih => have := hE _ _ _ e; omega
theorem Wk.one {E : Arcs α} (hE : Pos E) {d x : α} {m : Int} (h : Wk E d x m) (hx : x ≠ d) : 1 ≤ m := by
  cases h with
  | nil => exact absurd rfl hx
  | cons e h => have := hE _ _ _ e; have := h.nonneg hE; omega
theorem Wk.mono {E F : Arcs α} (hEF : ∀ x y l, E x y = some l → F x y = some l) {d x : α} {m : Int} (h : Wk E d x m) : Wk F d x m := by
  induction h with
  | nil => exact .nil
  | cons e _ ih => exact .cons (hEF _ _ _ e) ih
theorem Wk.app {E : Arcs α} {a d x : α} {m k : Int} (h : Wk E a x m) (g : Wk E d a k) : Wk E d x (m + k) := by
  induction h with
  | nil => rw [Int.zero_add]; exact g
  | cons e _ ih => rw [Int.add_assoc]; exact .cons e ih

theorem least_nat {p : Nat → Prop} : ∀ n, p n → ∃ k, p k ∧ ∀ j, p j → k ≤ j := by
  intro n
  induction n using Nat.strongRecOn with
  | _ n ih =>
    intro h
    by_cases q : ∃ j, j < n ∧ p j
    · obtain ⟨j, hj, pj⟩ := q
      exact ih j hj pj
    · exact ⟨n, h, fun j pj => Nat.le_of_not_lt fun hj => q ⟨j, hj, pj⟩⟩

/-- o is the distance of x to d -/
def IsD (E : Arcs α) (d x : α) : Option Int → Prop
  | none => ∀ m, ¬ Wk E d x m
  | some L => Wk E d x L ∧ ∀ m, Wk E d x m → L ≤ m
theorem IsD.unique {E : Arcs α} {d x : α} {o o' : Option Int} (h : IsD E d x o) (h' : IsD E d x o') : o = o' := by
  cases o with
  | none =>
    cases o' with
    | none => rfl
    | some L => exact absurd h'.1 (h L)
  | some L =>
    cases o' with
    | none => exact absurd h.1 (h' L)
    | some M =>
      have e : L = M := Int.le_antisymm (h.2 _ h'.1) (h'.2 _ h.1)
      rw [e]
theorem IsD.exists {E : Arcs α} (hE : Pos E) (d x : α) : ∃ o, IsD E d x o := by
  by_cases q : ∃ n : Nat, Wk E d x (n : Int)
  · obtain ⟨n, hn⟩ := q
    obtain ⟨k, hk, hl⟩ := least_nat (p := fun n : Nat => Wk E d x (n : Int)) n hn
    refine ⟨some (k : Int), hk, fun m hm => ?_⟩
    have h0 := hm.nonneg hE
    have h1 := hl m.toNat (by show Wk E d x (m.toNat : Int); rw [Int.toNat_of_nonneg h0]; exact hm)
    omega
  · refine ⟨none, fun m hm => q ⟨m.toNat, ?_⟩⟩
    rw [Int.toNat_of_nonneg (hm.nonneg hE)]
    exact hm
open Classical in
noncomputable def dist (E : Arcs α) (d x : α) : Option Int := if h : ∃ o, IsD E d x o then Classical.choose h else none
theorem dist_is {E : Arcs α} (hE : Pos E) (d x : α) : IsD E d x (dist E d x) := by
  have h := IsD.exists hE d x
  unfold dist
  rw [dif_pos h]
  exact Classical.choose_spec h
theorem dist_eq {E : Arcs α} (hE : Pos E) {d x : α} {o : Option Int} (h : IsD E d x o) : dist E d x = o := (dist_is hE d x).unique h
theorem dist_wk {E : Arcs α} (hE : Pos E) {d x : α} {L : Int} (h : dist E d x = some L) : Wk E d x L := by
  have q := dist_is hE d x
  rw [h] at q
  exact q.1
theorem dist_le {E : Arcs α} (hE : Pos E) {d x : α} {m : Int} (h : Wk E d x m) : ∃ L, dist E d x = some L ∧ L ≤ m := by
  have q := dist_is hE d x
  cases e : dist E d x with
  | none => rw [e] at q; exact absurd h (q m)
  | some L => rw [e] at q; exact ⟨L, rfl, q.2 m h⟩
theorem dist_self {E : Arcs α} (hE : Pos E) (d : α) : dist E d d = some 0 :=
  dist_eq hE ⟨.nil, fun m h => h.nonneg hE⟩
theorem dist_nonneg {E : Arcs α} (hE : Pos E) {d x : α} {L : Int} (h : dist E d x = some L) : 0 ≤ L := (dist_wk hE h).nonneg hE
theorem dist_one {E : Arcs α} (hE : Pos E) {d x : α} {L : Int} (h : dist E d x = some L) (hx : x ≠ d) : 1 ≤ L := (dist_wk hE h).one hE hx
theorem dist_arc {E : Arcs α} (hE : Pos E) {d x y : α} {l p : Int} (h : E x y = some l) (hy : dist E d y = some p) : ∃ q, dist E d x = some q ∧ q ≤ l + p :=
  dist_le hE (.cons h (dist_wk hE hy))
/-- the first arc of a shortest walk -/
theorem dist_next {E : Arcs α} (hE : Pos E) {d x : α} {L : Int} (h : dist E d x = some L) (hx : x ≠ d) : ∃ y l p, E x y = some l ∧ dist E d y = some p ∧ L = l + p := by
  have w := dist_wk hE h
  have q := dist_is hE d x
  rw [h] at q
  cases w with
  | nil => exact absurd rfl hx
  | @cons _ y l m e g =>
    obtain ⟨p, hp, hle⟩ := dist_le hE g
    have := q.2 _ (.cons e (dist_wk hE hp))
    exact ⟨y, l, p, e, hp, by omega⟩

/-- what bounds every walk and is one is the distance -/
theorem dist_of {E : Arcs α} (hE : Pos E) {d : α} {f : α → Option Int} (h0 : f d = some 0) (ha : ∀ x y l p, E x y = some l → f y = some p → ∃ q, f x = some q ∧ q ≤ l + p)
    (hw : ∀ x L, f x = some L → Wk E d x L) (x : α) : dist E d x = f x := by
  have low : ∀ {x m}, Wk E d x m → ∃ q, f x = some q ∧ q ≤ m := by
    intro x m h
    induction h with
    | nil => exact ⟨0, h0, Int.le_refl 0⟩
    | cons e _ ih =>
      obtain ⟨p, hp, hle⟩ := ih
      obtain ⟨q, hq, hle'⟩ := ha _ _ _ _ e hp
      exact ⟨q, hq, by omega⟩
  refine dist_eq hE ?_
  cases e : f x with
  | none =>
    intro m h
    obtain ⟨q, hq, _⟩ := low h
    rw [e] at hq; cases hq
  | some L =>
    refine ⟨hw x L e, fun m h => ?_⟩
    obtain ⟨q, hq, hle⟩ := low h
    rw [e] at hq; cases hq
    exact hle

/-- n is a next one of r towards d -/
def Nx (E : Arcs α) (d r n : α) : Prop := ∃ l b, E r n = some l ∧ dist E d n = some b ∧ dist E d r = some (l + b)

/-- no ring of the next ones by either -/
def Quiet (E F : Arcs α) (d : α) : Prop := ∃ rank : α → Nat, ∀ r n, Nx E d r n ∨ Nx F d r n → rank n < rank r

theorem Quiet.sub {E F E' F' : Arcs α} {d : α} (q : Quiet E F d) (h : ∀ r n, Nx E' d r n ∨ Nx F' d r n → Nx E d r n ∨ Nx F d r n) : Quiet E' F' d := by
  obtain ⟨rank, hr⟩ := q
  exact ⟨rank, fun r n hn => hr r n (h r n hn)⟩
theorem Quiet.self {E : Arcs α} (hE : Pos E) (d : α) : Quiet E E d := by
  refine ⟨fun x => ((dist E d x).getD 0).toNat, fun r n h => ?_⟩
  have h' : Nx E d r n := h.elim id id
  obtain ⟨l, b, e, hb, hr⟩ := h'
  show ((dist E d n).getD 0).toNat < ((dist E d r).getD 0).toNat
  rw [hb, hr]
  have := hE _ _ _ e
  have := dist_nonneg hE hb
  simp only [Option.getD_some]
  omega
end

/-! ### one link that grows -/
section
variable {α : Type} [DecidableEq α]

/-- the net without the link, and the link -/
structure Lk (α : Type) where
  E : Arcs α
  a : α
  b : α
  th : Int
  bk : Int
structure Lk.Ok (W : Lk α) : Prop where
  pos : Pos W.E
  ne : W.a ≠ W.b
  nab : W.E W.a W.b = none
  nba : W.E W.b W.a = none

/-- the arcs at a shift, none: without the link -/
def Lk.at (W : Lk α) : Option Int → Arcs α
  | none => W.E
  | some t => fun x y => if x = W.a ∧ y = W.b then some (W.th + t) else if x = W.b ∧ y = W.a then some (W.bk + t) else W.E x y
/-- a shift that can be -/
def Lk.Fit (W : Lk α) : Option Int → Prop
  | none => True
  | some t => 1 ≤ W.th + t ∧ 1 ≤ W.bk + t
/-- the plain distance; the detour -/
noncomputable def Lk.P (W : Lk α) (d x : α) : Option Int := dist W.E d x
def oadd (p : Option Int) (l : Int) (q : Option Int) : Option Int := match p, q with
  | some x, some y => some (x + l + y)
  | _, _ => none
def omin (p q : Option Int) : Option Int := match p, q with
  | some x, some y => some (if x ≤ y then x else y)
  | some x, none => some x
  | none, q => q
noncomputable def Lk.O (W : Lk α) (d x : α) : Option Int := omin (oadd (W.P W.a x) W.th (W.P d W.b)) (oadd (W.P W.b x) W.bk (W.P d W.a))
noncomputable def Lk.D (W : Lk α) (t : Option Int) (d x : α) : Option Int := match t with
  | none => W.P d x
  | some t => omin (W.P d x) ((W.O d x).map fun o => t + o)
/-- the point of a router, where it is one -/
noncomputable def Lk.point (W : Lk α) (d x : α) : Option Int := if x = d then none else match W.P d x, W.O d x with
  | some p, some o => some (p - o)
  | _, _ => none

theorem omin_some {p q : Option Int} {z : Int} : omin p q = some z ↔ (∃ x, p = some x ∧ ((∃ y, q = some y ∧ z = if x ≤ y then x else y) ∨ (q = none ∧ z = x))) ∨ (p = none ∧ q = some z) := by
  cases p <;> cases q <;> simp [omin, eq_comm]
theorem oadd_some {p q : Option Int} {l z : Int} : oadd p l q = some z ↔ ∃ x y, p = some x ∧ q = some y ∧ z = x + l + y := by
  cases p <;> cases q <;> simp [oadd, eq_comm]
theorem omin_le_l {p q : Option Int} {x : Int} (h : p = some x) : ∃ z, omin p q = some z ∧ z ≤ x := by
  subst h
  cases q with
  | none => exact ⟨x, rfl, Int.le_refl x⟩
  | some y =>
    refine ⟨if x ≤ y then x else y, rfl, ?_⟩
    split <;> omega
theorem omin_le_r {p q : Option Int} {y : Int} (h : q = some y) : ∃ z, omin p q = some z ∧ z ≤ y := by
  subst h
  cases p with
  | none => exact ⟨y, rfl, Int.le_refl y⟩
  | some x =>
    refine ⟨if x ≤ y then x else y, rfl, ?_⟩
    split <;> omega
theorem omin_or {p q : Option Int} {z : Int} (h : omin p q = some z) : p = some z ∨ q = some z := by
  cases p with
  | none => exact .inr h
  | some x =>
    cases q with
    | none => exact .inl h
    | some y =>
      have h : some (if x ≤ y then x else y) = some z := h
      split at h
      · exact .inl h
      · exact .inr h

variable {W : Lk α}
theorem Lk.at_pos (ok : W.Ok) {t : Option Int} (ft : W.Fit t) : Pos (W.at t) := by
  cases t with
  | none => exact ok.pos
  | some t =>
    intro x y l h
    have ft : 1 ≤ W.th + t ∧ 1 ≤ W.bk + t := ft
    simp only [Lk.at] at h
    split at h
    · cases h; exact ft.1
    · split at h
      · cases h; exact ft.2
      · exact ok.pos _ _ _ h
theorem Lk.at_sub (ok : W.Ok) (t : Option Int) {x y : α} {l : Int} (h : W.E x y = some l) : W.at t x y = some l := by
  cases t with
  | none => exact h
  | some t =>
    simp only [Lk.at]
    rw [if_neg, if_neg]
    · exact h
    · rintro ⟨rfl, rfl⟩; rw [ok.nba] at h; cases h
    · rintro ⟨rfl, rfl⟩; rw [ok.nab] at h; cases h
theorem Lk.at_ab {t : Int} : W.at (some t) W.a W.b = some (W.th + t) := by simp [Lk.at]
theorem Lk.at_ba (ok : W.Ok) {t : Int} : W.at (some t) W.b W.a = some (W.bk + t) := by
  show (if W.b = W.a ∧ W.a = W.b then some (W.th + t) else if W.b = W.b ∧ W.a = W.a then some (W.bk + t) else W.E W.b W.a) = some (W.bk + t)
  rw [if_neg (fun h => ok.ne h.2), if_pos ⟨rfl, rfl⟩]
theorem Lk.at_cases {t : Int} {x y : α} {l : Int} (h : W.at (some t) x y = some l) : (x = W.a ∧ y = W.b ∧ l = W.th + t) ∨ (x = W.b ∧ y = W.a ∧ l = W.bk + t) ∨ W.E x y = some l := by
  simp only [Lk.at] at h
  split at h
  · rename_i q; cases h; exact .inl ⟨q.1, q.2, rfl⟩
  · split at h
    · rename_i q; cases h; exact .inr (.inl ⟨q.1, q.2, rfl⟩)
    · exact .inr (.inr h)

theorem P_arc (ok : W.Ok) {d x y : α} {l p : Int} (h : W.E x y = some l) (hy : W.P d y = some p) : ∃ q, W.P d x = some q ∧ q ≤ l + p := dist_arc ok.pos h hy
theorem O_arc (ok : W.Ok) {d x y : α} {l p : Int} (h : W.E x y = some l) (hy : W.O d y = some p) : ∃ q, W.O d x = some q ∧ q ≤ l + p := by
  rcases omin_or hy with e | e
  · obtain ⟨u, v, h1, h2, rfl⟩ := oadd_some.mp e
    obtain ⟨u', h3, hle⟩ := P_arc ok h h1
    obtain ⟨z, hz, hz'⟩ := omin_le_l (p := oadd (W.P W.a x) W.th (W.P d W.b)) (q := oadd (W.P W.b x) W.bk (W.P d W.a)) (oadd_some.mpr ⟨u', v, h3, h2, rfl⟩)
    exact ⟨z, hz, by omega⟩
  · obtain ⟨u, v, h1, h2, rfl⟩ := oadd_some.mp e
    obtain ⟨u', h3, hle⟩ := P_arc ok h h1
    obtain ⟨z, hz, hz'⟩ := omin_le_r (p := oadd (W.P W.a x) W.th (W.P d W.b)) (q := oadd (W.P W.b x) W.bk (W.P d W.a)) (oadd_some.mpr ⟨u', v, h3, h2, rfl⟩)
    exact ⟨z, hz, by omega⟩
theorem P_self (ok : W.Ok) (d : α) : W.P d d = some 0 := dist_self ok.pos d
theorem P_nonneg (ok : W.Ok) {d x : α} {p : Int} (h : W.P d x = some p) : 0 ≤ p := dist_nonneg ok.pos h
/-- the detour is above the link -/
theorem O_fit (ok : W.Ok) {d x : α} {t o : Int} (ft : W.Fit (some t)) (h : W.O d x = some o) : 1 ≤ t + o := by
  have ft : 1 ≤ W.th + t ∧ 1 ≤ W.bk + t := ft
  rcases omin_or h with e | e
  all_goals
    obtain ⟨u, v, h1, h2, rfl⟩ := oadd_some.mp e
    have := P_nonneg ok h1
    have := P_nonneg ok h2
    omega
theorem O_a (ok : W.Ok) {d : α} {p : Int} (h : W.P d W.b = some p) : ∃ o, W.O d W.a = some o ∧ o ≤ W.th + p := by
  obtain ⟨z, hz, hz'⟩ := omin_le_l (p := oadd (W.P W.a W.a) W.th (W.P d W.b)) (q := oadd (W.P W.b W.a) W.bk (W.P d W.a)) (oadd_some.mpr ⟨0, p, P_self ok _, h, rfl⟩)
  exact ⟨z, hz, by omega⟩
theorem O_b (ok : W.Ok) {d : α} {p : Int} (h : W.P d W.a = some p) : ∃ o, W.O d W.b = some o ∧ o ≤ W.bk + p := by
  obtain ⟨z, hz, hz'⟩ := omin_le_r (p := oadd (W.P W.a W.b) W.th (W.P d W.b)) (q := oadd (W.P W.b W.b) W.bk (W.P d W.a)) (oadd_some.mpr ⟨0, p, P_self ok _, h, rfl⟩)
  exact ⟨z, hz, by omega⟩

/-- THE DISTANCE at a shift -/
theorem dist_at (ok : W.Ok) {t : Option Int} (ft : W.Fit t) (d x : α) : dist (W.at t) d x = W.D t d x := by
  cases t with
  | none => rfl
  | some t =>
    have ft' : 1 ≤ W.th + t ∧ 1 ≤ W.bk + t := ft
    refine dist_of (W.at_pos ok ft) ?_ ?_ ?_ x
    · show omin (W.P d d) _ = some 0
      rw [P_self ok]
      cases e : W.O d d with
      | none => rfl
      | some o =>
        have := O_fit ok ft e
        show some (if 0 ≤ t + o then (0 : Int) else t + o) = some 0
        rw [if_pos (by omega)]
    · intro x y l p h hy
      have hy : omin (W.P d y) ((W.O d y).map fun o => t + o) = some p := hy
      show ∃ q, omin (W.P d x) ((W.O d x).map fun o => t + o) = some q ∧ q ≤ l + p
      have viaP : ∀ {q : Int}, W.P d x = some q → q ≤ l + p → ∃ q, omin (W.P d x) ((W.O d x).map fun o => t + o) = some q ∧ q ≤ l + p := fun {q} h1 h2 => by
        obtain ⟨z, hz, hz'⟩ := omin_le_l (q := (W.O d x).map fun o => t + o) h1
        exact ⟨z, hz, by omega⟩
      have viaO : ∀ {q : Int}, W.O d x = some q → t + q ≤ l + p → ∃ q, omin (W.P d x) ((W.O d x).map fun o => t + o) = some q ∧ q ≤ l + p := fun {q} h1 h2 => by
        obtain ⟨z, hz, hz'⟩ := omin_le_r (p := W.P d x) (q := (W.O d x).map fun o => t + o) (y := t + q) (by rw [h1]; rfl)
        exact ⟨z, hz, by omega⟩
      rcases Lk.at_cases h with ⟨rfl, rfl, rfl⟩ | ⟨rfl, rfl, rfl⟩ | h
      · rcases omin_or hy with e | e
        · obtain ⟨o, ho, hle⟩ := O_a ok e
          exact viaO ho (by omega)
        · obtain ⟨o, eo, e⟩ := Option.map_eq_some_iff.mp e
          have e : t + o = _ := e
          subst e
          rcases omin_or eo with e | e
          · obtain ⟨u, v, h1, h2, rfl⟩ := oadd_some.mp e
            have := P_nonneg ok h1
            obtain ⟨o, ho, hle⟩ := O_a ok h2
            exact viaO ho (by omega)
          · obtain ⟨u, v, h1, h2, rfl⟩ := oadd_some.mp e
            have := P_nonneg ok h1
            exact viaP h2 (by omega)
      · rcases omin_or hy with e | e
        · obtain ⟨o, ho, hle⟩ := O_b ok e
          exact viaO ho (by omega)
        · obtain ⟨o, eo, e⟩ := Option.map_eq_some_iff.mp e
          have e : t + o = _ := e
          subst e
          rcases omin_or eo with e | e
          · obtain ⟨u, v, h1, h2, rfl⟩ := oadd_some.mp e
            have := P_nonneg ok h1
            exact viaP h2 (by omega)
          · obtain ⟨u, v, h1, h2, rfl⟩ := oadd_some.mp e
            have := P_nonneg ok h1
            obtain ⟨o, ho, hle⟩ := O_b ok h2
            exact viaO ho (by omega)
      · rcases omin_or hy with e | e
        · obtain ⟨q, hq, hle⟩ := P_arc ok h e
          exact viaP hq hle
        · obtain ⟨o, eo, e⟩ := Option.map_eq_some_iff.mp e
          have e : t + o = _ := e
          subst e
          obtain ⟨q, hq, hle⟩ := O_arc ok h eo
          exact viaO hq (by omega)
    · intro x L h
      have h : omin (W.P d x) ((W.O d x).map fun o => t + o) = some L := h
      have sub : ∀ x y l, W.E x y = some l → W.at (some t) x y = some l := fun _ _ _ => Lk.at_sub ok (some t)
      rcases omin_or h with e | e
      · exact (dist_wk ok.pos e).mono sub
      · obtain ⟨o, eo, e⟩ := Option.map_eq_some_iff.mp e
        have e : t + o = _ := e
        subst e
        rcases omin_or eo with e | e
        · obtain ⟨u, v, h1, h2, rfl⟩ := oadd_some.mp e
          have w := ((dist_wk ok.pos h1).mono sub).app (.cons Lk.at_ab ((dist_wk ok.pos h2).mono sub))
          have q : t + (u + W.th + v) = u + (W.th + t + v) := by omega
          rw [q]; exact w
        · obtain ⟨u, v, h1, h2, rfl⟩ := oadd_some.mp e
          have w := ((dist_wk ok.pos h1).mono sub).app (.cons (Lk.at_ba ok) ((dist_wk ok.pos h2).mono sub))
          have q : t + (u + W.bk + v) = u + (W.bk + t + v) := by omega
          rw [q]; exact w

/-! ### how the next ones change -/
/-- not above -/
def Ole : Option Int → Option Int → Prop
  | _, none => True
  | none, some _ => False
  | some s, some t => s ≤ t
def Olt : Option Int → Option Int → Prop
  | none, _ => False
  | some _, none => True
  | some s, some t => s < t

/-- what D says, in words that omega reads -/
theorem D_cases (W : Lk α) (t : Option Int) (d x : α) :
    (W.P d x = none ∧ W.O d x = none ∧ W.D t d x = none) ∨
    (∃ p, W.P d x = some p ∧ W.O d x = none ∧ W.D t d x = some p) ∨
    (∃ o, W.P d x = none ∧ W.O d x = some o ∧ ((t = none ∧ W.D t d x = none) ∨ ∃ z, t = some z ∧ W.D t d x = some (z + o))) ∨
    (∃ p o, W.P d x = some p ∧ W.O d x = some o ∧ ((t = none ∧ W.D t d x = some p) ∨ ∃ z, t = some z ∧ ((p ≤ z + o ∧ W.D t d x = some p) ∨ (z + o ≤ p ∧ W.D t d x = some (z + o))))) := by
  cases hp : W.P d x with
  | none =>
    cases ho : W.O d x with
    | none => cases t <;> simp [Lk.D, hp, ho, omin]
    | some o => cases t <;> simp [Lk.D, hp, ho, omin]
  | some p =>
    cases ho : W.O d x with
    | none => cases t <;> simp [Lk.D, hp, ho, omin]
    | some o =>
      cases t with
      | none => simp [Lk.D, hp, ho]
      | some z =>
        simp only [Lk.D, hp, ho, omin, Option.map_some]
        right; right; right
        refine ⟨p, o, rfl, rfl, .inr ⟨z, rfl, ?_⟩⟩
        by_cases q : p ≤ z + o
        · rw [if_pos q]; exact .inl ⟨q, rfl⟩
        · rw [if_neg q]; exact .inr ⟨by omega, rfl⟩

theorem D_self (ok : W.Ok) {t : Option Int} (ft : W.Fit t) (d : α) : W.D t d d = some 0 := by
  rw [← dist_at ok ft]
  exact dist_self (W.at_pos ok ft) d


/-- a lesser shift: not farther, and not nearer by more than the shifts are apart -/
theorem D_less (W : Lk α) {u v : Int} (huv : u ≤ v) {d x : α} {p : Int} (h : W.D (some v) d x = some p) : ∃ q, W.D (some u) d x = some q ∧ q ≤ p ∧ p ≤ q + (v - u) := by
  have c1 := D_cases W (some v) d x
  have c2 := D_cases W (some u) d x
  rcases c1 with ⟨a1, a2, a3⟩ | ⟨p1, a1, a2, a3⟩ | ⟨o1, a1, a2, ⟨a3, _⟩ | ⟨z, a3, a4⟩⟩ | ⟨p1, o1, a1, a2, ⟨a3, _⟩ | ⟨z, a3, ⟨a5, a4⟩ | ⟨a5, a4⟩⟩⟩
  · rw [a3] at h; cases h
  · rcases c2 with ⟨b1, b2, b3⟩ | ⟨p2, b1, b2, b3⟩ | ⟨o2, b1, b2, _⟩ | ⟨p2, o2, b1, b2, _⟩
    · rw [a1] at b1; cases b1
    · rw [a1] at b1; cases b1
      rw [a3] at h; cases h
      exact ⟨_, b3, Int.le_refl _, by omega⟩
    · rw [a2] at b2; cases b2
    · rw [a2] at b2; cases b2
  · cases a3
  · cases a3
    rw [a4] at h; cases h
    rcases c2 with ⟨b1, b2, b3⟩ | ⟨p2, b1, b2, b3⟩ | ⟨o2, b1, b2, ⟨b3, _⟩ | ⟨z', b3, b4⟩⟩ | ⟨p2, o2, b1, b2, _⟩
    · rw [a2] at b2; cases b2
    · rw [a2] at b2; cases b2
    · cases b3
    · cases b3
      rw [a2] at b2; cases b2
      exact ⟨_, b4, by omega, by omega⟩
    · rw [a1] at b1; cases b1
  · cases a3
  all_goals
    cases a3
    rw [a4] at h; cases h
    rcases c2 with ⟨b1, b2, b3⟩ | ⟨p2, b1, b2, b3⟩ | ⟨o2, b1, b2, _⟩ | ⟨p2, o2, b1, b2, ⟨b3, _⟩ | ⟨z', b3, ⟨b5, b4⟩ | ⟨b5, b4⟩⟩⟩
    · rw [a1] at b1; cases b1
    · rw [a2] at b2; cases b2
    · rw [a1] at b1; cases b1
    · cases b3
    · cases b3
      rw [a1] at b1; cases b1
      rw [a2] at b2; cases b2
      exact ⟨_, b4, by omega, by omega⟩
    · cases b3
      rw [a1] at b1; cases b1
      rw [a2] at b2; cases b2
      exact ⟨_, b4, by omega, by omega⟩
theorem D_more (W : Lk α) {u v : Int} (huv : u ≤ v) {d x : α} {p : Int} (h : W.D (some u) d x = some p) : ∃ q, W.D (some v) d x = some q ∧ p ≤ q ∧ q ≤ p + (v - u) := by
  have hv : ∃ q, W.D (some v) d x = some q := by
    rcases D_cases W (some u) d x with ⟨a1, a2, a3⟩ | ⟨p1, a1, a2, a3⟩ | ⟨o1, a1, a2, _⟩ | ⟨p1, o1, a1, a2, _⟩
    · rw [a3] at h; cases h
    · obtain ⟨z, hz, _⟩ := omin_le_l (q := (W.O d x).map fun o => v + o) a1
      exact ⟨z, hz⟩
    · obtain ⟨z, hz, _⟩ := omin_le_r (p := W.P d x) (q := (W.O d x).map fun o => v + o) (y := v + o1) (by rw [a2]; rfl)
      exact ⟨z, hz⟩
    · obtain ⟨z, hz, _⟩ := omin_le_l (q := (W.O d x).map fun o => v + o) a1
      exact ⟨z, hz⟩
  obtain ⟨q, hq⟩ := hv
  obtain ⟨p', h1, h2, h3⟩ := D_less W huv hq
  rw [h] at h1; cases h1
  exact ⟨q, hq, h2, h3⟩
/-- an arc of the link itself that stands at v stands below, too -/
theorem link_down (ok : W.Ok) {u v : Int} (fu : W.Fit (some u)) (fv : W.Fit (some v)) (huv : u ≤ v) {d r n : α} {l b k : Int} (hk : W.at (some u) r n = some (k + u)) (hl : l = k + v)
    (hb : W.D (some v) d n = some b) (hr : W.D (some v) d r = some (l + b)) : Nx (W.at (some u)) d r n := by
  obtain ⟨b', h1, h2, h3⟩ := D_less W huv hb
  obtain ⟨c', h4, h5, h6⟩ := D_less W huv hr
  obtain ⟨c'', h7, h8⟩ := dist_arc (W.at_pos ok fu) hk (by rw [dist_at ok fu]; exact h1)
  rw [dist_at ok fu, h4] at h7
  cases h7
  refine ⟨k + u, b', hk, by rw [dist_at ok fu]; exact h1, ?_⟩
  rw [dist_at ok fu, h4]
  congr 1
  omega
theorem link_cases (ok : W.Ok) {u v : Int} {r n : α} {l : Int} (h : W.at (some v) r n = some l) : (∃ k, W.at (some u) r n = some (k + u) ∧ l = k + v) ∨ W.E r n = some l := by
  rcases Lk.at_cases h with ⟨rfl, rfl, rfl⟩ | ⟨rfl, rfl, rfl⟩ | h
  · exact .inl ⟨_, W.at_ab, rfl⟩
  · exact .inl ⟨_, W.at_ba ok, rfl⟩
  · exact .inr h
theorem Nx.ne (ok : W.Ok) {t : Option Int} (ft : W.Fit t) {d r n : α} (h : Nx (W.at t) d r n) : r ≠ d := by
  obtain ⟨l, b, e, hb, hr⟩ := h
  intro q
  rw [q, dist_at ok ft, D_self ok ft] at hr
  have h1 := W.at_pos ok ft _ _ _ e
  have h2 := dist_nonneg (W.at_pos ok ft) hb
  have := Option.some.inj hr
  omega
/-- an arc of the rest of the net that stands: what is so of plain distances and detours -/
theorem plain_cases (ok : W.Ok) {t : Option Int} {d r n : α} {l b : Int} (e : W.E r n = some l) (hb : W.D t d n = some b) (hr : W.D t d r = some (l + b)) :
    -- it begins a plain shortest way
    (∃ p, W.P d n = some p ∧ W.P d r = some (l + p) ∧ W.D t d r = some (l + p) ∧ b = p) ∨
    -- it begins a shortest detour
    (∃ o z, t = some z ∧ W.O d n = some o ∧ W.O d r = some (l + o) ∧ b = z + o ∧ ∀ p, W.P d r = some p → z + (l + o) ≤ p) := by
  rcases D_cases W t d n with ⟨a1, a2, a3⟩ | ⟨p1, a1, a2, a3⟩ | ⟨o1, a1, a2, ⟨a3, a4⟩ | ⟨z, a3, a4⟩⟩ | ⟨p1, o1, a1, a2, ⟨a3, a4⟩ | ⟨z, a3, ⟨a5, a4⟩ | ⟨a5, a4⟩⟩⟩
  · rw [a3] at hb; cases hb
  · rw [a3] at hb; cases hb
    obtain ⟨q, hq, hle⟩ := P_arc ok e a1
    obtain ⟨z, hz, hle'⟩ : ∃ z, W.D t d r = some z ∧ z ≤ q := by
      cases t with
      | none => exact ⟨q, hq, Int.le_refl q⟩
      | some t => exact omin_le_l hq
    rw [hr] at hz; cases hz
    have : q = l + b := by omega
    subst this
    exact .inl ⟨b, a1, hq, hr, rfl⟩
  · rw [a4] at hb; cases hb
  · rw [a4] at hb; cases hb
    subst a3
    obtain ⟨q, hq, hle⟩ := O_arc ok e a2
    obtain ⟨y, hy, hle'⟩ := omin_le_r (p := W.P d r) (q := (W.O d r).map fun o => z + o) (y := z + q) (by rw [hq]; rfl)
    have hy' : W.D (some z) d r = some y := hy
    rw [hr] at hy'; cases hy'
    have : q = l + o1 := by omega
    subst this
    refine .inr ⟨o1, z, rfl, a2, hq, rfl, fun p hp => ?_⟩
    obtain ⟨y', hy', hle''⟩ := omin_le_l (q := (W.O d r).map fun o => z + o) hp
    rw [hy] at hy'; cases hy'
    omega
  · rw [a4] at hb; cases hb
    obtain ⟨q, hq, hle⟩ := P_arc ok e a1
    subst a3
    have hr' : W.P d r = some (l + b) := hr
    exact .inl ⟨b, a1, hr', hr, rfl⟩
  · rw [a4] at hb; cases hb
    subst a3
    obtain ⟨q, hq, hle⟩ := P_arc ok e a1
    obtain ⟨y, hy, hle'⟩ : ∃ y, W.D (some z) d r = some y ∧ y ≤ q := omin_le_l hq
    rw [hr] at hy; cases hy
    have : q = l + b := by omega
    subst this
    exact .inl ⟨b, a1, hq, hr, rfl⟩
  · rw [a4] at hb; cases hb
    subst a3
    obtain ⟨q, hq, hle⟩ := O_arc ok e a2
    obtain ⟨y, hy, hle'⟩ := omin_le_r (p := W.P d r) (q := (W.O d r).map fun o => z + o) (y := z + q) (by rw [hq]; rfl)
    have hy' : W.D (some z) d r = some y := hy
    rw [hr] at hy'; cases hy'
    have : q = l + o1 := by omega
    subst this
    refine .inr ⟨o1, z, rfl, a2, hq, rfl, fun p hp => ?_⟩
    obtain ⟨y', hy', hle''⟩ := omin_le_l (q := (W.O d r).map fun o => z + o) hp
    rw [hy] at hy'; cases hy'
    omega
/-- an arc that begins a shortest detour stands below -/
theorem detour_down (ok : W.Ok) {u z : Int} (fu : W.Fit (some u)) (huz : u ≤ z) {d r n : α} {l o : Int} (e : W.E r n = some l) (h1 : W.O d n = some o) (h2 : W.O d r = some (l + o)) (h3 : ∀ p, W.P d r = some p → z + (l + o) ≤ p) :
    Nx (W.at (some u)) d r n := by
  have hr : W.D (some u) d r = some (u + (l + o)) := by
    show omin (W.P d r) ((W.O d r).map fun o => u + o) = _
    rw [h2]
    cases hp : W.P d r with
    | none => rfl
    | some p =>
      have := h3 p hp
      show some (if p ≤ u + (l + o) then p else u + (l + o)) = some (u + (l + o))
      by_cases q : p ≤ u + (l + o)
      · rw [if_pos q]; congr 1; omega
      · rw [if_neg q]
  obtain ⟨y, hy, hle⟩ := omin_le_r (p := W.P d n) (q := (W.O d n).map fun o => u + o) (y := u + o) (by rw [h1]; rfl)
  have hy' : W.D (some u) d n = some y := hy
  have ea : W.at (some u) r n = some l := W.at_sub ok (some u) e
  obtain ⟨c, hc, hle'⟩ := dist_arc (W.at_pos ok fu) ea (by rw [dist_at ok fu]; exact hy')
  rw [dist_at ok fu, hr] at hc
  cases hc
  refine ⟨l, y, ea, by rw [dist_at ok fu]; exact hy', ?_⟩
  rw [dist_at ok fu, hr]
  congr 1
  omega
/-- an arc that begins a plain shortest way stands where the router's ways are plain -/
theorem plain_at (ok : W.Ok) {t : Option Int} (ft : W.Fit t) {d r n : α} {l p : Int} (e : W.E r n = some l) (h1 : W.P d n = some p) (h2 : W.D t d r = some (l + p)) : Nx (W.at t) d r n := by
  have ea : W.at t r n = some l := W.at_sub ok t e
  obtain ⟨y, hy, hle⟩ : ∃ y, W.D t d n = some y ∧ y ≤ p := by
    cases t with
    | none => exact ⟨p, h1, Int.le_refl p⟩
    | some t => exact omin_le_l h1
  obtain ⟨c, hc, hle'⟩ := dist_arc (W.at_pos ok ft) ea (by rw [dist_at ok ft]; exact hy)
  rw [dist_at ok ft, h2] at hc
  cases hc
  refine ⟨l, y, ea, by rw [dist_at ok ft]; exact hy, ?_⟩
  rw [dist_at ok ft, h2]
  congr 1
  omega
/-- the ways of a router, plain ones at a shift: plain ones above, too -/
theorem plain_up {s t : Option Int} (h : Ole s t) {d r : α} {p : Int} (hp : W.P d r = some p) (hd : W.D s d r = some p) : W.D t d r = some p := by
  cases t with
  | none => exact hp
  | some t =>
    cases s with
    | none => exact h.elim
    | some s =>
      have h : s ≤ t := h
      show omin (W.P d r) ((W.O d r).map fun o => t + o) = some p
      have hd : omin (W.P d r) ((W.O d r).map fun o => s + o) = some p := hd
      rw [hp] at hd ⊢
      cases ho : W.O d r with
      | none => rfl
      | some o =>
        rw [ho] at hd
        have hd : some (if p ≤ s + o then p else s + o) = some p := hd
        have hd := Option.some.inj hd
        show some (if p ≤ t + o then p else t + o) = some p
        by_cases q : p ≤ s + o
        · rw [if_pos (by omega)]
        · rw [if_neg q] at hd; omega
theorem point_some {d r : α} {p o : Int} (hd : r ≠ d) (hp : W.P d r = some p) (ho : W.O d r = some o) : W.point d r = some (p - o) := by
  unfold Lk.point
  rw [if_neg hd, hp, ho]

/-- no point of a router lies above u and not above v: what stands at v stands at u -/
theorem step_down (ok : W.Ok) {u : Int} {v : Option Int} (fu : W.Fit (some u)) (fv : W.Fit v) (huv : Ole (some u) v) {d r n : α}
    (hp : ∀ p, W.point d r = some p → u < p → ¬ Ole (some p) v) (h : Nx (W.at v) d r n) : Nx (W.at (some u)) d r n := by
  have rd := h.ne ok fv
  obtain ⟨l, b, e, hb, hr⟩ := h
  rw [dist_at ok fv] at hb hr
  have rest : W.E r n = some l → Nx (W.at (some u)) d r n := by
    intro e'
    rcases plain_cases ok e' hb hr with ⟨p, h1, h2, h3, rfl⟩ | ⟨o, z, rfl, h1, h2, rfl, h3⟩
    · -- plain ways at v: at u, too, since the point is not above u
      refine plain_at ok fu e' h1 ?_
      show omin (W.P d r) ((W.O d r).map fun o => u + o) = _
      rw [h2]
      cases ho : W.O d r with
      | none => rfl
      | some o =>
        have q1 := hp _ (point_some rd h2 ho)
        show some (if l + b ≤ u + o then l + b else u + o) = some (l + b)
        by_cases q : l + b ≤ u + o
        · rw [if_pos q]
        · refine absurd ?_ (q1 (by omega))
          cases v with
          | none => trivial
          | some v =>
            have h3 : omin (W.P d r) ((W.O d r).map fun o => v + o) = some (l + b) := h3
            rw [h2, ho] at h3
            have h3 : some (if l + b ≤ v + o then l + b else v + o) = some (l + b) := h3
            have h3 := Option.some.inj h3
            show l + b - o ≤ v
            split at h3
            · omega
            · omega
    · exact detour_down ok fu huv e' h1 h2 h3
  cases v with
  | none => exact rest e
  | some v =>
    rcases link_cases (u := u) ok e with ⟨k, hk, hl⟩ | e
    · exact link_down ok fu fv huv hk hl hb hr
    · exact rest e

/-- between two shifts nothing stands that stands at neither -/
theorem convex (ok : W.Ok) {s : Int} {v t : Option Int} (fs : W.Fit (some s)) (fv : W.Fit v) (ft : W.Fit t) (hsv : Ole (some s) v) (hvt : Ole v t) {d r n : α} (h : Nx (W.at v) d r n) :
    Nx (W.at (some s)) d r n ∨ Nx (W.at t) d r n := by
  obtain ⟨l, b, e, hb, hr⟩ := h
  rw [dist_at ok fv] at hb hr
  have rest : W.E r n = some l → Nx (W.at (some s)) d r n ∨ Nx (W.at t) d r n := by
    intro e'
    rcases plain_cases ok e' hb hr with ⟨p, h1, h2, h3, rfl⟩ | ⟨o, z, rfl, h1, h2, rfl, h3⟩
    · exact .inr (plain_at ok ft e' h1 (plain_up hvt h2 h3))
    · exact .inl (detour_down ok fs hsv e' h1 h2 h3)
  cases v with
  | none => exact rest e
  | some v =>
    rcases link_cases (u := s) ok e with ⟨k, hk, hl⟩ | e
    · exact .inl (link_down ok fs fv hsv hk hl hb hr)
    · exact rest e

/-- a step by one is quiet -/
theorem quiet_one (ok : W.Ok) {t : Int} (ft : W.Fit (some t)) (ft' : W.Fit (some (t + 1))) (d : α) : Quiet (W.at (some t)) (W.at (some (t + 1))) d := by
  refine ⟨fun x => ((W.D (some t) d x).getD 0 + (W.D (some (t + 1)) d x).getD 0).toNat, fun r n h => ?_⟩
  show ((W.D (some t) d n).getD 0 + (W.D (some (t + 1)) d n).getD 0).toNat < ((W.D (some t) d r).getD 0 + (W.D (some (t + 1)) d r).getD 0).toNat
  have ok1 := W.at_pos ok ft
  have ok2 := W.at_pos ok ft'
  rcases h with ⟨l, b, e, hb, hr⟩ | ⟨l, b, e, hb, hr⟩
  · have l1 := ok1 _ _ _ e
    have b0 := dist_nonneg ok1 hb
    rw [dist_at ok ft] at hb hr
    obtain ⟨b', h1, h2, h3⟩ := D_more W (show t ≤ t + 1 by omega) hb
    obtain ⟨c', h4, h5, h6⟩ := D_more W (show t ≤ t + 1 by omega) hr
    rw [hb, hr, h1, h4]
    simp only [Option.getD_some]
    omega
  · have l1 := ok2 _ _ _ e
    rw [dist_at ok ft'] at hb hr
    obtain ⟨b', h1, h2, h3⟩ := D_less W (show t ≤ t + 1 by omega) hb
    obtain ⟨c', h4, h5, h6⟩ := D_less W (show t ≤ t + 1 by omega) hr
    have b0 := dist_nonneg ok1 (show dist (W.at (some t)) d n = some b' by rw [dist_at ok ft]; exact h1)
    rw [hb, hr, h1, h4]
    simp only [Option.getD_some]
    omega

/-! ### steps -/
/-- no packet can turn, for any destination -/
def AllQ (W : Lk α) (R : List α) (s t : Option Int) : Prop := ∀ d ∈ R, Quiet (W.at s) (W.at t) d
theorem AllQ.inner (ok : W.Ok) {R : List α} {s : Int} {u v t : Option Int} (fs : W.Fit (some s)) (fu : W.Fit u) (fv : W.Fit v) (ft : W.Fit t) (hsu : Ole (some s) u) (hut : Ole u t) (hsv : Ole (some s) v) (hvt : Ole v t)
    (h : AllQ W R (some s) t) : AllQ W R u v := fun d hd => (h d hd).sub fun r n q => by
  rcases q with q | q
  · exact convex ok fs fu ft hsu hut q
  · exact convex ok fs fv ft hsv hvt q
theorem AllQ.one (ok : W.Ok) {R : List α} {t : Int} (ft : W.Fit (some t)) (ft' : W.Fit (some (t + 1))) : AllQ W R (some t) (some (t + 1)) := fun d _ => quiet_one ok ft ft' d
theorem AllQ.self (ok : W.Ok) {R : List α} {t : Option Int} (ft : W.Fit t) : AllQ W R t t := fun d _ => Quiet.self (W.at_pos ok ft) d

/-- ps are all points -/
def AllPts (W : Lk α) (R : List α) (ps : List Int) : Prop := ∀ d ∈ R, ∀ r p, W.point d r = some p → p ∈ ps
theorem greatest {p : Int → Prop} : ∀ (l : List Int), (∃ x ∈ l, p x) → ∃ x ∈ l, p x ∧ ∀ y ∈ l, p y → y ≤ x := by
  intro l
  induction l with
  | nil => rintro ⟨x, hx, _⟩; cases hx
  | cons a l ih =>
    rintro ⟨x, hx, px⟩
    by_cases q : ∃ x ∈ l, p x
    · obtain ⟨m, hm, pm, h⟩ := ih q
      by_cases qa : p a ∧ m < a
      · refine ⟨a, List.mem_cons_self, qa.1, fun y hy py => ?_⟩
        rcases List.mem_cons.mp hy with rfl | hy
        · exact Int.le_refl _
        · have := h y hy py; omega
      · refine ⟨m, List.mem_cons_of_mem _ hm, pm, fun y hy py => ?_⟩
        rcases List.mem_cons.mp hy with rfl | hy
        · exact Int.not_lt.mp fun z => qa ⟨py, z⟩
        · exact h y hy py
    · rcases List.mem_cons.mp hx with rfl | hx
      · refine ⟨x, List.mem_cons_self, px, fun y hy py => ?_⟩
        rcases List.mem_cons.mp hy with rfl | hy
        · exact Int.le_refl _
        · exact absurd ⟨y, hy, py⟩ q
      · exact absurd ⟨x, hx, px⟩ q
theorem fit_up {s t : Int} (h : W.Fit (some s)) (hst : s ≤ t) : W.Fit (some t) := by
  obtain ⟨h1, h2⟩ := h
  show 1 ≤ W.th + t ∧ 1 ≤ W.bk + t
  omega
theorem Ole.of_lt {t : Int} {g : Option Int} (h : Olt (some t) g) : Ole (some t) g := by
  cases g with
  | none => trivial
  | some g => exact Int.le_of_lt h
/-- a step that turns turns at some point on the way -/
theorem some_point (ok : W.Ok) {R : List α} {ps : List Int} (all : AllPts W R ps) {t : Int} {g : Option Int} (ft : W.Fit (some t)) (fg : W.Fit g) (htg : Ole (some t) g) (h : ¬ AllQ W R (some t) g) :
    ∃ x ∈ ps, t < x ∧ Ole (some x) g ∧ ¬ AllQ W R (some t) (some x) := by
  by_cases q : ∃ x ∈ ps, t < x ∧ Ole (some x) g
  · obtain ⟨x, hx, ⟨h1, h2⟩, hm⟩ := greatest ps q
    refine ⟨x, hx, h1, h2, fun hq => h fun d hd => (hq d hd).sub fun r n z => ?_⟩
    have fx : W.Fit (some x) := fit_up ft (Int.le_of_lt h1)
    rcases z with z | z
    · exact .inl z
    · refine .inr (step_down ok fx fg h2 (fun p hp hlt hle => ?_) z)
      have := hm p (all d hd r p hp) ⟨by omega, hle⟩
      omega
  · refine absurd (fun d hd => (Quiet.self (W.at_pos ok ft) d).sub fun r n z => ?_) h
    rcases z with z | z
    · exact .inl z
    · exact .inl (step_down ok ft fg htg (fun p hp hlt hle => q ⟨p, all d hd r p hp, hlt, hle⟩) z)
/-- ahead of the first point at which it turns the step is quiet, and it is a step -/
theorem before_point (ok : W.Ok) {R : List α} {ps : List Int} (all : AllPts W R ps) {t x : Int} (ft : W.Fit (some t)) (htx : t < x) (hx : ¬ AllQ W R (some t) (some x))
    (hb : ∀ y ∈ ps, t < y → y < x → AllQ W R (some t) (some y)) : t + 1 < x ∧ AllQ W R (some t) (some (x - 1)) := by
  have h1 : t + 1 < x := by
    rcases Int.lt_or_le (t + 1) x with q | q
    · exact q
    · have : x = t + 1 := by omega
      subst this
      exact absurd (AllQ.one ok ft (fit_up ft (by omega))) hx
  refine ⟨h1, ?_⟩
  have fx : W.Fit (some (x - 1)) := fit_up ft (by omega)
  by_cases q : ∃ y ∈ ps, t < y ∧ y < x
  · obtain ⟨y, hy, ⟨h2, h3⟩, hm⟩ := greatest ps q
    have fy : W.Fit (some y) := fit_up ft (Int.le_of_lt h2)
    refine fun d hd => (hb y hy h2 h3 d hd).sub fun r n z => ?_
    rcases z with z | z
    · exact .inl z
    · refine .inr (step_down ok fy fx (show y ≤ x - 1 by omega) (fun p hp hlt hle => ?_) z)
      have hle : p ≤ x - 1 := hle
      have := hm p (all d hd r p hp) ⟨by omega, by omega⟩
      omega
  · refine fun d hd => (Quiet.self (W.at_pos ok ft) d).sub fun r n z => ?_
    rcases z with z | z
    · exact .inl z
    · refine .inl (step_down ok ft fx (show t ≤ x - 1 by omega) (fun p hp hlt hle => q ⟨p, all d hd r p hp, hlt, ?_⟩) z)
      have hle : p ≤ x - 1 := hle
      omega
end
end QT
set_option linter.all false
namespace QT
section
variable {α : Type} [DecidableEq α]
theorem filter_lt {P Q : α → Bool} {y : α} : ∀ {R : List α}, (∀ z ∈ R, P z = true → Q z = true) → y ∈ R → P y = false → Q y = true → (R.filter P).length < (R.filter Q).length
  | [], _, h, _, _ => nomatch h
  | z :: R, hs, hy, hp, hq => by
    have hs' : ∀ z ∈ R, P z = true → Q z = true := fun z hz => hs z (List.mem_cons_of_mem _ hz)
    have le : ∀ {R : List α}, (∀ z ∈ R, P z = true → Q z = true) → (R.filter P).length ≤ (R.filter Q).length := by
      intro R
      induction R with
      | nil => intro _; exact Nat.le_refl _
      | cons z R ih =>
        intro hs
        have ih := ih fun z hz => hs z (List.mem_cons_of_mem _ hz)
        have h0 := hs z (List.mem_cons_self ..)
        rw [List.filter_cons, List.filter_cons]
        cases hP : P z with
        | true => rw [h0 hP]; simpa using ih
        | false => cases Q z <;> simp <;> omega
    rw [List.filter_cons, List.filter_cons]
    rcases List.mem_cons.mp hy with rfl | hy
    · rw [hp, hq]
      have := le hs'
      simp; omega
    · have ih := filter_lt hs' hy hp hq
      have h0 := hs z (List.mem_cons_self ..)
      cases hP : P z with
      | true => rw [h0 hP]; simpa using ih
      | false => cases Q z <;> simp <;> omega
/-- how many are nearer -/
noncomputable def rk (E : Arcs α) (d : α) (R : List α) (L : Int) : Nat := (R.filter fun z => match dist E d z with | some p => decide (p < L) | none => false).length
theorem rk_le (E : Arcs α) (d : α) (R : List α) (L : Int) : rk E d R L ≤ R.length := List.length_filter_le _ _
theorem rk_lt {E : Arcs α} {d : α} {R : List α} {y : α} {p L : Int} (hy : y ∈ R) (h : dist E d y = some p) (l : p < L) : rk E d R p < rk E d R L := by
  unfold rk
  refine filter_lt (y := y) (fun z _ hz => ?_) hy ?_ ?_
  · cases e : dist E d z with
    | none => rw [e] at hz; exact hz
    | some q =>
      rw [e] at hz
      have : q < p := of_decide_eq_true hz
      exact decide_eq_true (by omega)
  · rw [h]
    exact decide_eq_false (by omega)
  · rw [h]
    exact decide_eq_true l
structure Sound (E : Arcs α) (d : α) (f : α → Option Int) : Prop where
  self : f d = some 0
  wk : ∀ x L, f x = some L → Wk E d x L
def Settled (E : Arcs α) (d : α) (R : List α) (k : Nat) (f : α → Option Int) : Prop := ∀ x L, dist E d x = some L → rk E d R L ≤ k → f x = some L
/-- the arcs seen in this round bind -/
def Seen (E : Arcs α) (d : α) (R : List α) (k : Nat) (as : List ((α × α) × Int)) (f : α → Option Int) : Prop :=
  ∀ e ∈ as, ∀ p, dist E d e.1.2 = some p → rk E d R p ≤ k → ∃ q, f e.1.1 = some q ∧ q ≤ e.2 + p
def put (f : α → Option Int) (x : α) (v : Int) : α → Option Int := fun z => if z = x then some v else f z
/-- within a round -/
structure BF (E : Arcs α) (d : α) (R : List α) (k : Nat) (as : List ((α × α) × Int)) (f : α → Option Int) : Prop where
  pos : Pos E
  sound : Sound E d f
  set : Settled E d R k f
  seen : Seen E d R k as f
variable {E : Arcs α} {d : α} {R : List α} {k : Nat} {as : List ((α × α) × Int)} {f : α → Option Int} {x y : α} {l p : Int}
/-- nothing to do at this arc -/
theorem BF.skip (b : BF E d R k as f) (h : ∀ p, f y = some p → ∃ q, f x = some q ∧ q ≤ l + p) : BF E d R k (as ++ [((x, y), l)]) f := by
  refine ⟨b.pos, b.sound, b.set, fun e he p hp hr => ?_⟩
  rcases List.mem_append.mp he with he | he
  · exact b.seen e he p hp hr
  · rw [List.mem_singleton.mp he] at hp ⊢
    exact h p (b.set _ _ hp hr)
theorem BF.put (b : BF E d R k as f) (e : E x y = some l) (hy : f y = some p) (hx : ∀ q, f x = some q → l + p < q) : BF E d R k (as ++ [((x, y), l)]) (put f x (l + p)) := by
  have w : Wk E d x (l + p) := .cons e (b.sound.wk _ _ hy)
  have hd : x ≠ d := by
    rintro rfl
    have h0 := hx 0 b.sound.self
    have h1 := w.nonneg b.pos
    omega
  have low : ∀ z q, f z = some q → ∃ q', QT.put f x (l + p) z = some q' ∧ q' ≤ q := by
    intro z q hz
    unfold QT.put
    by_cases c : z = x
    · rw [if_pos c]
      subst c
      exact ⟨_, rfl, by have := hx q hz; omega⟩
    · rw [if_neg c]
      exact ⟨q, hz, Int.le_refl _⟩
  have snd : Sound E d (QT.put f x (l + p)) := by
    refine ⟨?_, fun z L hz => ?_⟩
    · show (if d = x then _ else _) = _
      rw [if_neg (Ne.symm hd)]
      exact b.sound.self
    · have hz : (if z = x then some (l + p) else f z) = some L := hz
      by_cases c : z = x
      · rw [if_pos c] at hz
        cases hz
        rw [c]; exact w
      · rw [if_neg c] at hz
        exact b.sound.wk _ _ hz
  refine ⟨b.pos, snd, fun z L hz hr => ?_, fun e he p' hp hr => ?_⟩
  · obtain ⟨q, hq, hle⟩ := low z L (b.set z L hz hr)
    have := (dist_le b.pos (snd.wk _ _ hq))
    obtain ⟨L', hL', hle'⟩ := this
    rw [hz] at hL'; cases hL'
    have : q = L := by omega
    rw [hq, this]
  · rcases List.mem_append.mp he with he | he
    · obtain ⟨q, hq, hle⟩ := b.seen e he p' hp hr
      obtain ⟨q', hq', hle'⟩ := low _ _ hq
      exact ⟨q', hq', by omega⟩
    · rw [List.mem_singleton.mp he] at hp ⊢
      have := b.set _ _ hp hr
      rw [hy] at this; cases this
      exact ⟨l + p, by show (if x = x then _ else _) = _; rw [if_pos rfl], Int.le_refl _⟩
/-- a round -/
theorem BF.round (b : BF E d R k as f) (hR : ∀ x y l, E x y = some l → y ∈ R) (all : ∀ x y l, E x y = some l → ((x, y), l) ∈ as) : BF E d R (k + 1) [] f := by
  refine ⟨b.pos, b.sound, fun x L hx hr => ?_, fun e he => nomatch he⟩
  by_cases c : x = d
  · subst c
    rw [dist_self b.pos] at hx
    cases hx
    exact b.sound.self
  · obtain ⟨y, l, p, e, hy, rfl⟩ := dist_next b.pos hx c
    have h1 := b.pos _ _ _ e
    have := rk_lt (R := R) (hR _ _ _ e) hy (show p < l + p by omega)
    obtain ⟨q, hq, hle⟩ := b.seen _ (all _ _ _ e) p hy (by omega)
    obtain ⟨L', hL', hle'⟩ := dist_le b.pos (b.sound.wk _ _ hq)
    rw [hx] at hL'; cases hL'
    have hle : q ≤ l + p := hle
    have : q = l + p := by omega
    rw [← this]; exact hq
theorem BF.start (hE : Pos E) (hR : d ∈ R) : BF E d R 0 [] (fun z => if z = d then some 0 else none) := by
  refine ⟨hE, ⟨if_pos rfl, fun x L h => ?_⟩, fun x L hx hr => ?_, fun e he => nomatch he⟩
  · by_cases c : x = d
    · rw [if_pos c] at h
      cases h
      rw [c]; exact .nil
    · rw [if_neg c] at h; cases h
  · by_cases c : x = d
    · subst c
      rw [dist_self hE] at hx
      rw [if_pos rfl]; exact hx
    · have := dist_one hE hx c
      have := rk_lt (R := R) (L := L) hR (dist_self hE d) (by omega)
      omega
theorem BF.done (b : BF E d R k as f) (h : R.length ≤ k) : f = dist E d := by
  funext x
  cases e : dist E d x with
  | none =>
    cases g : f x with
    | none => rfl
    | some L =>
      obtain ⟨L', h', _⟩ := dist_le b.pos (b.sound.wk _ _ g)
      rw [e] at h'; cases h'
  | some L => exact b.set x L e (Nat.le_trans (rk_le ..) h)
/-- at the end nothing is to do -/
theorem BF.still (b : BF E d R k as f) (h : R.length ≤ k) (e : E x y = some l) (hy : f y = some p) : ∃ q, f x = some q ∧ q ≤ l + p := by
  rw [b.done h] at hy ⊢
  exact dist_arc b.pos e hy
theorem BF.nonneg (b : BF E d R k as f) (h : f x = some p) : 0 ≤ p := (b.sound.wk _ _ h).nonneg b.pos
end
end QT
set_option Elab.async false
set_option linter.all false
set_option maxRecDepth 100000
set_option maxHeartbeats 4000000
set_option Elab.async false
set_option linter.all false
set_option maxRecDepth 100000
set_option maxHeartbeats 4000000
namespace QB
open PySem PySem.Spec L2
open PyProof.Rows (envOfC)
open RZ (Ty4 rIsTy call_isTy pi_zipA iZipA ItzT for_zipT for_zipL)

/-! ### heaps -/
/-- the tuples stand -/
def Tsm (H H' : Hp) : Prop := ∀ a xs, H a = some (.tup xs) → H' a = some (.tup xs)
theorem Tsm.refl (H : Hp) : Tsm H H := fun _ _ h => h
theorem Tsm.trans {H H1 H2 : Hp} (a : Tsm H H1) (b : Tsm H1 H2) : Tsm H H2 := fun c o h => b c o (a c o h)
theorem sg {H H' : Hp} {a : Addr} {o : HO} (s : Same H H') (h : H a = some o) : H' a = some o := s _ _ h
theorem tsS {H H' : Hp} (s : Same H H') : Tsm H H' := fun a xs h => s a _ h
theorem same_new {H : Hp} {p : Addr} {o : HO} (hp : H p = Option.none) : Same H (upd H p o) := fun b u e => by
  rw [upd_ne (ne_of_none e hp)]; exact e
/-- what is known stays where an object that is not known changes -/
theorem same_mut {F H : Hp} {p : Addr} {o : HO} (s : Same F H) (hp : F p = Option.none) : Same F (upd H p o) := fun b u e => by
  rw [upd_ne (ne_of_none e hp)]; exact s _ _ e
theorem seqT {K : PySem.W.Frag} {H H' : Hp} {a : Addr} {xs : List V} (e : Same H H') (h : SqT K H a xs) : SqT K H' a xs := by
  rcases h with (h | ⟨o, h⟩) | h
  · exact .inl (.inl (e _ _ h))
  · exact .inl (.inr ⟨o, e _ _ h⟩)
  · exact .inr h
/-- the heap without an object -/
def drop (p : Addr) (H : Hp) : Hp := fun b => if b = p then Option.none else H b
theorem drop_same {p : Addr} {H : Hp} : drop p H p = Option.none := by unfold drop; rw [if_pos rfl]
theorem drop_ne {p b : Addr} {H : Hp} (h : b ≠ p) : drop p H b = H b := by unfold drop; rw [if_neg h]
theorem drop_le {p : Addr} {H : Hp} : Same (drop p H) H := fun b u e => by
  by_cases q : b = p
  · rw [q, drop_same] at e; cases e
  · rw [drop_ne q] at e; exact e

/-! ### defs -/
section
variable {P : Program} {w : World} {K : PySem.W.Frag} {mg : Str → Option Value} {base : Heap}
/-- the def of that name keeps the promise sp, by at most level k -/
def DefOk (P : Program) (w : World) (K : PySem.W.Frag) (mg : Str → Option Value) (base : Heap) (x : Str) (ps : List Str) (sp : Sp) (k : Nat) : Prop :=
  ∃ f fd, mg x = some (.ref f) ∧ PySem.W.keepIn K (.ref f) = true ∧ Binds K fd ps [] ∧ FnOk P w K mg base CX0 k f fd ps sp
theorem DefOk.mono {x : Str} {ps : List Str} {sp : Sp} {j k : Nat} (D : DefOk P w K mg base x ps sp j) (h : j ≤ k) : DefOk P w K mg base x ps sp k := by
  obtain ⟨f, fd, a, b, c, d⟩ := D
  exact ⟨f, fd, a, b, c, d.mono h⟩
/-- where a def of the text stands -/
def FunAt (K : PySem.W.Frag) (mg : Str → Option Value) (x : Str) (st : Stmt) : Prop := ∃ f fd, mg x = some (.ref f) ∧ Fun K x x st f fd
theorem mk_def {x : Str} {st : Stmt} {N ps : List Str} {k : Nat} {sp : Sp} (F : FunAt K mg x st) (S : FnScope N ps (defScope st))
    (hb : ∀ (kV doc pm : Value) (an : Option Addr) (cdv ct : Value) (us : List Value), us.length = ps.length → bindArgs (PySem.W.fnOf x x (defArgs st) (defBody st) (defScope st) .none kV doc pm an cdv ct) ⟨us, []⟩ = pure (ps.zip us))
    (len : ∀ vs H Q E, sp vs H Q E → vs.length = ps.length)
    (body : ∀ (f : Addr) (cdv : Value) (A : Around) (outer : List Env) (s : Shared) (H : Hp) (vs : List V) (Q : VK) (E : XK), Room k (A.deeper (envOfC x (defScope st) s.heap.objs.size f cdv)) → sp vs H Q E →
      ∃ t, PSs (cxOf CX0 P w K mg base N x (defScope st) f cdv A outer s H E).nox (defBody st) t ∧ t { nx := fun _ H' => Q .non H', rt := Q } (start N vs) H) :
    DefOk P w K mg base x ps sp (k + 1) := by
  obtain ⟨f, fd, hm, F⟩ := F
  exact ⟨f, fd, hm, F.kp, F.binds hb, F.ok S len fun cdv A outer s H vs Q E hr h => body f cdv A outer s H vs Q E hr h⟩
end


/-! ### what the text's top leaves -/
/-- the class of nets: at CN -/
structure NetC (P : Program) (w : World) (K : PySem.W.Frag) (mg : Str → Option Value) (base : Heap) (C : Addr) : Prop where
  cl : Cls K C
  nr : NoAttr K C "own_routers"
  nl : NoAttr K C "own_links"
  pr : ∃ p g fd, PropOf K C "routers" p g ∧ Binds K fd ["self"] [] ∧ FnOk P w K mg base CX0 1 g fd ["self"] (getSp C "own_routers")
  pl : ∃ p g fd, PropOf K C "links" p g ∧ Binds K fd ["self"] [] ∧ FnOk P w K mg base CX0 1 g fd ["self"] (getSp C "own_links")
structure Tx (P : Program) (w : World) (K : PySem.W.Frag) (mg : Str → Option Value) (base : Heap) (CN CC : Addr) : Prop where
  f_len : mg "len" = none
  f_isinstance : mg "isinstance" = none
  f_all : mg "all" = none
  f_zip : mg "zip" = none
  f_range : mg "range" = none
  f_list : mg "list" = none
  f_tuple : mg "tuple" = none
  f_set : mg "set" = none
  f_sorted : mg "sorted" = none
  f_max : mg "max" = none
  f_min : mg "min" = none
  f_abs : mg "abs" = none
  f_int : mg "int" = none
  f_enumerate : mg "enumerate" = none
  f_str : mg "str" = none
  f_bool : mg "bool" = none
  c_LETTERS : ∃ t, mg "LETTERS" = some (.str "abcdefghijklmnopqrstuvwxyz" t)
  c_LONGEST_NAME : ∃ t, mg "LONGEST_NAME" = some (.int 8 t)
  c_FEWEST_ROUTERS : ∃ t, mg "FEWEST_ROUTERS" = some (.int 2 t)
  c_MOST_ROUTERS : ∃ t, mg "MOST_ROUTERS" = some (.int 8 t)
  c_MOST_LINKS : ∃ t, mg "MOST_LINKS" = some (.int 16 t)
  c_LINK : ∃ t, mg "LINK" = some (.int 4 t)
  c_TURNS : ∃ t, mg "TURNS" = some (.str "turns" t)
  c_LOST : ∃ t, mg "LOST" = some (.str "lost" t)
  c_QUIET : ∃ t, mg "QUIET" = some (.str "quiet" t)
  c_STEPS : ∃ t, mg "STEPS" = some (.str "steps" t)
  net : NetC P w K mg base CN
  chg : Cls K CC
  ch_net : NoAttr K CC "own_net"
  ch_pair : NoAttr K CC "pair"
  ch_least : NoAttr K CC "least"
  ch_lengths : NoAttr K CC "lengths"
  ch_plain : NoAttr K CC "plain"
  ch_over : NoAttr K CC "ways_over"
section
variable {P : Program} {w : World} {K : PySem.W.Frag} {mg : Str → Option Value} {base : Heap} {CN CC : Addr} {X : Cx} {p : Pos}
theorem k_str {n z : Str} (c : ∃ t, X.mg n = some (.str z t)) (hg : Gl X n) (hd : (n == ("__debug__" : Str)) = false := by decide) : PE X (.Name n p) (tC (.str z)) := by
  obtain ⟨t, e⟩ := c
  exact pe_glob hg e ⟨t, rfl⟩ hd
theorem k_int {n : Str} {z : Int} (c : ∃ t, X.mg n = some (.int z t)) (hg : Gl X n) (hd : (n == ("__debug__" : Str)) = false := by decide) : PE X (.Name n p) (tC (.int z)) := by
  obtain ⟨t, e⟩ := c
  exact pe_glob hg e ⟨t, rfl⟩ hd

/-- o.routers, o.links of a net -/
theorem pe_routers {e : Expr} {ta : TE} (N : NetC X.prog X.w X.K X.mg X.base CN) (hr : Room 2 X.A) (he : PE X e ta) (hab : attributeBase e "routers" X.env (eval e X.env) = eval e X.env) :
    PE X (.Attribute e "routers" p) (tProp CN (getSp CN "own_routers") [] E0 ta) := by
  obtain ⟨q, g, fd, hp, b, F⟩ := N.pr
  exact pe_prop he N.cl hp F hr b .nil pass0 hab
theorem pe_links {e : Expr} {ta : TE} (N : NetC X.prog X.w X.K X.mg X.base CN) (hr : Room 2 X.A) (he : PE X e ta) (hab : attributeBase e "links" X.env (eval e X.env) = eval e X.env) :
    PE X (.Attribute e "links" p) (tProp CN (getSp CN "own_links") [] E0 ta) := by
  obtain ⟨q, g, fd, hp, b, F⟩ := N.pl
  exact pe_prop he N.cl hp F hr b .nil pass0 hab
/-- a built-in class as a value -/
theorem pe_ty {n : Str} {T : String} (m : X.mg n = none) (hv : bootBuiltins n = some (.type T)) (hg : Gl X n) (hn : n ≠ "__name__" := by decide) (hd : (n == ("__debug__" : Str)) = false := by decide) : PE X (.Name n p) (tC (.ty T)) :=
  pe_bltn hg m hv rfl hn hd
end

/-! ### calls of defs -/
section
variable {X : Cx} {x : Str} {p pos : Pos} {e : Expr} {es : List Expr} {ps : List Str} {sp : Sp} {k : Nat} {t : TA}
theorem pe_callD (D : DefOk X.prog X.w X.K X.mg X.base x ps sp k) (hr : Room k X.A) (hg : Gl X x) (ha : PA X (e :: es) t) (hdb : (x == ("__debug__" : Str)) = false := by decide)
    (he : starEach (e :: es) X.env = (false, eval e X.env) :: starEach es X.env := by rfl) (hpl : (backTo pos (starEach es X.env)).any (·.1) = false := by rfl) : PE X (.Call (.Name x p) (e :: es) [] pos) (tCall sp [] E0 t) := by
  obtain ⟨f, fd, a, b, c, d⟩ := D
  exact pe_call d hr hg a b c .nil pass0 ha hdb he hpl
/-- a method of the class at C -/
def MethOk (P : Program) (w : World) (K : PySem.W.Frag) (mg : Str → Option Value) (base : Heap) (C : Addr) (m : Str) (ps : List Str) (sp : Sp) (k : Nat) : Prop :=
  ∃ f fd, Cls K C ∧ Meth K C m f ∧ Binds K fd ps [] ∧ FnOk P w K mg base CX0 k f fd ps sp
/-- the class's own making -/
def MakeOk (P : Program) (w : World) (K : PySem.W.Frag) (mg : Str → Option Value) (base : Heap) (x : Str) (C : Addr) (ps : List Str) (sp : Sp) (k : Nat) : Prop :=
  ∃ f fd, Mk K C f ∧ mg x = some (.ref C) ∧ Binds K fd ps [] ∧ FnOk P w K mg base CX0 k f fd ps sp
variable {C : Addr} {m : Str} {o : Expr} {ta : TE} {apos : Pos}
theorem pe_methD {pl : Sem Bool} (D : MethOk X.prog X.w X.K X.mg X.base C m ps sp k) (hr : Room k X.A) (he : PE X o ta) (ha : PA X (e :: es) t)
    (hst : starEach (e :: es) X.env = (false, eval e X.env) :: starEach es X.env := by rfl) (hpl : (backTo pos (starEach es X.env)).any (·.1) = false := by rfl)
    (ht : eval (.Call (.Attribute o m apos) (e :: es) [] pos) X.env = (do
      let ov ← eval o X.env
      standAt apos.atName
      let (f, first) ← holding [ov] (getMethod ov m pl)
      callWith pos f first (backTo pos (starEach (e :: es) X.env)) (backToKw pos (keywordEach [] X.env))) := by rfl) :
    PE X (.Call (.Attribute o m apos) (e :: es) [] pos) (tMeth C m sp [] E0 ta t) := by
  obtain ⟨f, fd, c, hm, b, F⟩ := D
  exact pe_meth he c hm F hr b .nil pass0 ha hst hpl ht
theorem pe_makeD (D : MakeOk X.prog X.w X.K X.mg X.base x C ps sp k) (hr : Room (k + 1) X.A) (hg : Gl X x) (ha : PA X (e :: es) t) (hdb : (x == ("__debug__" : Str)) = false := by decide)
    (he : starEach (e :: es) X.env = (false, eval e X.env) :: starEach es X.env := by rfl) (hpl : (backTo pos (starEach es X.env)).any (·.1) = false := by rfl) : PE X (.Call (.Name x p) (e :: es) [] pos) (tMake C sp [] E0 t) := by
  obtain ⟨f, fd, M, a, b, F⟩ := D
  exact pe_make M F hr hg a b .nil pass0 ha hdb he hpl
end

/-! ### answers -/
section
variable {K : PySem.W.Frag} {σ : L2.St} {H : Hp} {Q : VK} {QB : Bool → Hp → Prop} {QA : List V → Hp → Prop} {ta tb tc : TE} {tt tu : TT} {te : TA}
theorem a_var {i : Nat} {v : V} (e : σ[i]? = some (some v)) (h : Q v H) : tVar i σ H Q := ⟨v, e, h⟩
theorem a_c {v : V} (h : Q v H) : tC v σ H Q := h
theorem a_op {r : R2} (h : ta σ H fun x H1 => tb σ H1 fun y H2 => r x y H2 Q) : tOp r ta tb σ H Q := h
theorem a_un {r : V → Hp → VK → Prop} (h : ta σ H fun x H1 => r x H1 Q) : tUn r ta σ H Q := h
theorem a_cb {r : List V → Hp → VK → Prop} (h : te σ H fun vs H1 => r vs H1 Q) : tCB r te σ H Q := h
theorem a_nil (h : QA [] H) : tNil σ H QA := h
theorem a_cons (h : ta σ H fun x H1 => te σ H1 fun xs H2 => QA (x :: xs) H2) : tCons ta te σ H QA := h
theorem a_call {sp : Sp} (h : te σ H fun vs H1 => sp vs H1 Q E0) : tCall sp [] E0 te σ H Q := by
  have e : ∀ vs : List V, vs ++ [] = vs := List.append_nil
  show te σ H fun vs H1 => sp (vs ++ []) H1 Q E0
  simp only [e]
  exact h
theorem a_meth {C : Addr} {m : Str} {sp : Sp} (h : ta σ H fun x H1 => ∃ a dx fs, x = .ref a ∧ H1 a = some (.ins C dx fs) ∧ fs.lookup m = none ∧ te σ H1 fun vs H2 => sp (x :: vs) H2 Q E0) : tMeth C m sp [] E0 ta te σ H Q := by
  have e : ∀ vs : List V, vs ++ [] = vs := List.append_nil
  show ta σ H fun x H1 => ∃ a dx fs, x = .ref a ∧ H1 a = some (.ins C dx fs) ∧ fs.lookup m = none ∧ te σ H1 fun vs H2 => sp (x :: (vs ++ [])) H2 Q E0
  simp only [e]
  exact h
theorem a_make {C : Addr} {sp : Sp} (h : te σ H fun vs H1 => ∀ x dx, H1 x = none → H1 dx = none → dx ≠ x → sp (.ref x :: vs) (upd (upd H1 dx (.own x)) x (.ins C dx [])) (fun v H2 => v = .non ∧ Q (.ref x) H2) E0) : tMake C sp [] E0 te σ H Q := by
  have e : ∀ vs : List V, vs ++ [] = vs := List.append_nil
  show te σ H fun vs H1 => ∀ x dx, H1 x = none → H1 dx = none → dx ≠ x → sp (.ref x :: (vs ++ [])) (upd (upd H1 dx (.own x)) x (.ins C dx [])) (fun v H2 => v = .non ∧ Q (.ref x) H2) E0
  simp only [e]
  exact h
theorem a_test (h : ta σ H fun x H1 => ∃ c, x = .bl c ∧ QB c H1) : tB ta σ H QB := h
theorem a_tTest (h : ta σ H fun x H1 => ∃ c, x = .bl c ∧ QB c H1) : tTest ta σ H QB := h
theorem a_tand (h : tt σ H fun c H1 => if c = true then tu σ H1 QB else QB false H1) : tAnd tt tu σ H QB := h
theorem a_tor (h : tt σ H fun c H1 => if c = true then QB true H1 else tu σ H1 QB) : tOr tt tu σ H QB := h
theorem a_tnot (h : tt σ H fun c H1 => QB (!c) H1) : tNot tt σ H QB := h
theorem a_and (h : ta σ H fun x H1 => ∃ c, x = .bl c ∧ if c = true then tb σ H1 Q else Q (.bl false) H1) : tAndV ta tb σ H Q := h
theorem a_or (h : ta σ H fun x H1 => ∃ c, x = .bl c ∧ if c = true then Q (.bl true) H1 else tb σ H1 Q) : tOrV ta tb σ H Q := h
theorem a_not (h : ta σ H fun x H1 => ∃ c, x = .bl c ∧ Q (.bl (!c)) H1) : tNotV ta σ H Q := h
theorem a_if (h : tt σ H fun c H1 => if c = true then ta σ H1 Q else tb σ H1 Q) : tIf tt ta tb σ H Q := h
theorem a_ri0 {g : Int → Int → V} {i j : Int} (h : Q (g i j) H) : rI0 g (.int i) (.int j) H Q := ⟨i, j, rfl, rfl, h⟩
theorem a_ri {C : Int → Int → Prop} {g : Int → Int → V} {i j : Int} (c : C i j) (h : Q (g i j) H) : rI C g (.int i) (.int j) H Q := ⟨i, j, rfl, rfl, c, h⟩
theorem a_tup (h : te σ H fun xs H1 => xs.length ≤ sizeLine ∧ ∀ p, H1 p = none → Q (.ref p) (upd H1 p (.tup xs))) : tTup te σ H Q := h
theorem a_lst (h : te σ H fun xs H1 => xs.length ≤ sizeLine ∧ ∀ p, H1 p = none → Q (.ref p) (upd H1 p (.lst xs))) : tLst te σ H Q := h
/-- a new object -/
theorem nw {o : HO} {R : Addr → Hp → Prop} (h : ∀ p H', H p = none → Same H H' → H' p = some o → R p H') : ∀ p, H p = none → R p (upd H p o) := fun p hp => h p _ hp (same_new hp) upd_same
theorem a_isTy {x : V} {T : String} (t : Ty4 H x T) (h : Q (.bl true) H) : rIsTy [x, .ty T] H Q := ⟨x, T, rfl, t, h⟩
theorem a_isi {x : V} {T T' : String} {b : Bool} (t : TyX K H x (.type T')) (k : kitB T' T = some b) (h : Q (.bl b) H) : rIsi K [x, .ty T] H Q := ⟨x, .ty T, .type T', .type T, b, rfl, .ty T, t, kit_ty k, h⟩
theorem a_bl {c : Bool} {R : Bool → Prop} (h : R c) : ∃ d, V.bl c = .bl d ∧ R d := ⟨c, rfl, h⟩
theorem a_prop {C : Addr} {f : Str} (h : ta σ H fun x H1 => ∃ a dx fs, x = .ref a ∧ H1 a = some (.ins C dx fs) ∧ getSp C f [.ref a] H1 Q E0) : tProp C (getSp C f) [] E0 ta σ H Q := h
theorem a_get {C a dx : Addr} {f : Str} {fs : List (Str × V)} {v : V} (ha : H a = some (.ins C dx fs)) (hl : fs.lookup f = some v) (h : Q v H) : ∃ b dx fs, V.ref a = .ref b ∧ H b = some (.ins C dx fs) ∧ getSp C f [.ref b] H Q E0 :=
  ⟨a, dx, fs, rfl, ha, a, dx, fs, v, rfl, ha, hl, h⟩
end
section
variable {D : Ends} {σ : L2.St} {H : Hp} {t u : L2.TS} {te : TE} {tc : TT} {f b c : L2.St → Hp → Prop} {r : VK}
theorem a_seq (h : t { D with nx := u D } σ H) : tSeq t u D σ H := h
theorem a_asg {g : TG} (h : te σ H fun x H1 => g x σ H1 D.nx) : tAsg te g D σ H := h
theorem a_drop (h : te σ H fun _ H1 => D.nx σ H1) : tDrop te D σ H := h
theorem a_ret (h : te σ H D.rt) : tRet te D σ H := h
theorem a_retN (h : D.rt .non H) : tRetN D σ H := h
theorem a_ifS (h : tc σ H fun b H1 => if b = true then t D σ H1 else u D σ H1) : tIfS tc t u D σ H := h
theorem a_next (h : D.nx σ H) : tNext D σ H := h
theorem a_gname {i : Nat} {v : V} {Q : L2.St → Hp → Prop} (h : Q (σ.set i (some v)) H) : gName i v σ H Q := h
theorem a_nx (h : f σ H) : (Ends.mk f r b c).nx σ H := h
theorem a_rt {v : V} (h : r v H) : (Ends.mk f r b c).rt v H := h
theorem a_bk (h : b σ H) : (Ends.mk f r b c).bk σ H := h
theorem a_ct (h : c σ H) : (Ends.mk f r b c).ct σ H := h
end

/-! ### rules by a name -/
def rLenQ (K : PySem.W.Frag) : List V → Hp → VK → Prop := fun xs H Q => ∃ p ys, xs = [.ref p] ∧ (SqL K H p ys ∨ SqT K H p ys) ∧ Q (.int ys.length) H
def rListQ (K : PySem.W.Frag) : List V → Hp → VK → Prop := fun xs H Q => ∃ p ys, xs = [.ref p] ∧ (SqL K H p ys ∨ SqT K H p ys) ∧ ∀ l, H l = none → Q (.ref l) (upd H l (.lst ys))
def rMaxQ : List V → Hp → VK → Prop := fun xs H Q => ∃ i j, xs = [.int i, .int j] ∧ Q (.int (if j > i then j else i)) H
def rLenZ : List V → Hp → VK → Prop := fun xs H Q => ∃ z, xs = [.str z] ∧ z.length ≤ sizeLine ∧ Q (.int z.length) H
def rTupOf (K : PySem.W.Frag) : List V → Hp → VK → Prop := fun xs H Q => ∃ p ys, xs = [.ref p] ∧ ((SqL K H p ys ∧ ∀ l, H l = none → Q (.ref l) (upd H l (.tup ys))) ∨ (SqT K H p ys ∧ Q (.ref p) H))
def rAbs : List V → Hp → VK → Prop := fun xs H Q => ∃ i, xs = [.int i] ∧ Q (.int (if i < 0 then -i else i)) H
def rInt1 : List V → Hp → VK → Prop := fun xs H Q => (∃ i, xs = [.int i] ∧ Q (.int i) H) ∨ ∃ k, xs = [.bl k] ∧ Q (.int (if k then 1 else 0)) H
def rMin2 : List V → Hp → VK → Prop := fun xs H Q => ∃ i j, xs = [.int i, .int j] ∧ Q (.int (if j < i then j else i)) H
def rAddZ : R2 := fun x y H Q => ∃ i j, x = .str i ∧ y = .str j ∧ i.length + j.length ≤ sizeLine ∧ Q (.str (i ++ j)) H
def rLtZ : R2 := fun x y H Q => ∃ i j, x = .str i ∧ y = .str j ∧ Q (.bl (decide (i.cps.toList < j.cps.toList))) H
def rInSg : R2 := fun x y H Q => ∃ (c : Nat) (z : Str), x = .str ⟨#[c]⟩ ∧ y = .str z ∧ Q (.bl (decide (c ∈ z.cps.toList))) H
section
variable {X : Cx}
theorem c_len : CallR X (.builtin "len") (rLenQ X.K) := call_len_seq
theorem c_lenZ : CallR X (.builtin "len") rLenZ := call_len_str
theorem c_tuple : CallR X (.type "tuple") (rTupOf X.K) := call_tuple_of
theorem c_list : CallR X (.type "list") (rListQ X.K) := call_list_of
theorem c_abs : CallR X (.builtin "abs") rAbs := call_abs
theorem c_int : CallR X (.type "int") rInt1 := call_int1
theorem c_max2 (hc : X.calm = true) : CallR X (.builtin "max") rMaxQ := call_max2 hc
theorem c_min2 (hc : X.calm = true) : CallR X (.builtin "min") rMin2 := call_min2 hc
theorem o_addZ : OpR X (binaryOp .Add) rAddZ := op_add_str
theorem o_ltZ : OpR X (compareOp .Lt) rLtZ := op_lt_str
theorem o_inSg : OpR X (compareOp .In) rInSg := op_in_sign
end
section
variable {K : PySem.W.Frag} {σ : L2.St} {H : Hp} {Q : VK} {ta tb te tx : TE} {xs ys : List V} {p : Addr} {R : Hp → Prop}
theorem a_lenL (h : H p = some (.lst xs)) (q : Q (.int xs.length) H) : rLenQ K [.ref p] H Q := ⟨p, xs, rfl, .inl (SqL.of h), q⟩
theorem a_lenT (h : H p = some (.tup xs)) (q : Q (.int xs.length) H) : rLenQ K [.ref p] H Q := ⟨p, xs, rfl, .inr (SqT.of h), q⟩
theorem a_tupL (h : H p = some (.lst xs)) (q : ∀ l H', H l = none → Same H H' → H' l = some (.tup xs) → Q (.ref l) H') : rTupOf K [.ref p] H Q := ⟨p, xs, rfl, .inl ⟨SqL.of h, nw q⟩⟩
theorem a_lstL (h : H p = some (.lst xs)) (q : ∀ l H', H l = none → Same H H' → H' l = some (.lst xs) → Q (.ref l) H') : rListQ K [.ref p] H Q := ⟨p, xs, rfl, .inl (SqL.of h), nw q⟩
theorem a_lstT (h : H p = some (.tup xs)) (q : ∀ l H', H l = none → Same H H' → H' l = some (.lst xs) → Q (.ref l) H') : rListQ K [.ref p] H Q := ⟨p, xs, rfl, .inr (SqT.of h), nw q⟩
theorem a_ixL {i : Int} {v : V} (h : H p = some (.lst xs)) (a : atI xs i = some v) (q : Q v H) : rIxL K (.ref p) (.int i) H Q := ⟨p, xs, i, v, rfl, rfl, SqL.of h, a, q⟩
theorem a_ixT {i : Int} {v : V} (h : H p = some (.tup xs)) (a : atI xs i = some v) (q : Q v H) : rIxT K (.ref p) (.int i) H Q := ⟨p, xs, i, v, rfl, rfl, SqT.of h, a, q⟩
theorem a_isN {v : V} (q : Q (.bl (decide (v = .non))) H) : rIsN v .non H Q := ⟨rfl, q⟩
theorem a_notN {v : V} (q : Q (.bl (!decide (v = .non))) H) : rNotN v .non H Q := ⟨rfl, q⟩
theorem a_eqI {i j : Int} (q : Q (.bl (decide (i = j))) H) : rEq (.int i) (.int j) H Q := ⟨rfl, by
  have e : decide (V.int i = V.int j) = decide (i = j) := by
    by_cases h : i = j
    · rw [h]; simp
    · simp [h]
  rw [e]; exact q⟩
theorem a_neI {i j : Int} (q : Q (.bl (!decide (i = j))) H) : rNe (.int i) (.int j) H Q := ⟨rfl, by
  have e : decide (V.int i = V.int j) = decide (i = j) := by
    by_cases h : i = j
    · rw [h]; simp
    · simp [h]
  rw [e]; exact q⟩
theorem a_eqZ {i j : Str} (q : Q (.bl (decide (i = j))) H) : rEq (.str i) (.str j) H Q := ⟨rfl, by
  have e : decide (V.str i = V.str j) = decide (i = j) := by
    by_cases h : i = j
    · rw [h]; simp
    · simp [h]
  rw [e]; exact q⟩
theorem a_neZ {i j : Str} (q : Q (.bl (!decide (i = j))) H) : rNe (.str i) (.str j) H Q := ⟨rfl, by
  have e : decide (V.str i = V.str j) = decide (i = j) := by
    by_cases h : i = j
    · rw [h]; simp
    · simp [h]
  rw [e]; exact q⟩
theorem a_addZ {i j : Str} (l : i.length + j.length ≤ sizeLine) (q : Q (.str (i ++ j)) H) : rAddZ (.str i) (.str j) H Q := ⟨i, j, rfl, rfl, l, q⟩
theorem a_ltZ {i j : Str} (q : Q (.bl (decide (i.cps.toList < j.cps.toList))) H) : rLtZ (.str i) (.str j) H Q := ⟨i, j, rfl, rfl, q⟩
theorem a_int {i : Int} (q : Q (.int i) H) : rInt1 [.int i] H Q := .inl ⟨i, rfl, q⟩
theorem a_intB {k : Bool} (q : Q (.int (if k then 1 else 0)) H) : rInt1 [.bl k] H Q := .inr ⟨k, rfl, q⟩
theorem a_abs {i : Int} (q : Q (.int (if i < 0 then -i else i)) H) : rAbs [.int i] H Q := ⟨i, rfl, q⟩
theorem a_max2 {i j : Int} (q : Q (.int (if j > i then j else i)) H) : rMaxQ [.int i, .int j] H Q := ⟨i, j, rfl, q⟩
theorem a_min2 {i j : Int} (q : Q (.int (if j < i then j else i)) H) : rMin2 [.int i, .int j] H Q := ⟨i, j, rfl, q⟩
/-- field reads -/
theorem a_fld {C a dx : Addr} {f : Str} {fs : List (Str × V)} {v : V} (ha : H a = some (.ins C dx fs)) (c : Cls K C) (n : NoAttr K C f) (hl : fs.lookup f = some v) (q : Q v H) :
    ∃ b C dx fs v, V.ref a = .ref b ∧ H b = some (.ins C dx fs) ∧ Cls K C ∧ NoAttr K C f ∧ fs.lookup f = some v ∧ Q v H := ⟨a, C, dx, fs, v, rfl, ha, c, n, hl, q⟩
theorem a_tFld {f : Str} (h : ta σ H fun x H1 => ∃ a C dx fs v, x = .ref a ∧ H1 a = some (.ins C dx fs) ∧ Cls K C ∧ NoAttr K C f ∧ fs.lookup f = some v ∧ Q v H1) : tFld K ta f σ H Q := h
/-- dict reads -/
theorem a_dget (h : ta σ H fun x H1 => tb σ H1 fun y H2 => ∃ a v, x = .ref a ∧ DGet H2 a y (some v) ∧ Q v H2) : tDGet ta tb σ H Q := h
theorem a_din (h : tb σ H fun y H1 => ta σ H1 fun x H2 => ∃ a o, x = .ref a ∧ DGet H2 a y o ∧ Q (.bl o.isSome) H2) : tDIn tb ta σ H Q := h
theorem a_dnin (h : tb σ H fun y H1 => ta σ H1 fun x H2 => ∃ a o, x = .ref a ∧ DGet H2 a y o ∧ Q (.bl (!o.isSome)) H2) : tDNotIn tb ta σ H Q := h
theorem a_getK {kvs : List (Key × V)} {z : Str} {v : V} (h : Rd H p (.dK kvs)) (l : valV kvs (.inr z) = some v) (q : Q v H) : ∃ a v, V.ref p = .ref a ∧ DGet H a (.str z) (some v) ∧ Q v H := ⟨p, v, rfl, .inl ⟨kvs, .inr z, h, rfl, l.symm⟩, q⟩
theorem a_getT {kvs : List (List Key × V)} {k : List Key} {b : Addr} {v : V} (h : Rd H p (.dT kvs)) (hb : H b = some (.tup (k.map kV))) (l : valV kvs k = some v) (q : Q v H) : ∃ a v, V.ref p = .ref a ∧ DGet H a (.ref b) (some v) ∧ Q v H :=
  ⟨p, v, rfl, .inr ⟨kvs, k, b, h, rfl, hb, l.symm⟩, q⟩
theorem a_inK {kvs : List (Key × V)} {z : Str} {S : Bool → Hp → Prop} (h : Rd H p (.dK kvs)) (q : S (valV kvs (.inr z)).isSome H) : ∃ a o, V.ref p = .ref a ∧ DGet H a (.str z) o ∧ S o.isSome H := ⟨p, _, rfl, .inl ⟨kvs, .inr z, h, rfl, rfl⟩, q⟩
/-- slices, calls -/
theorem a_sl {r : V → Option Int → Option Int → Hp → VK → Prop} {tl th : TO} (h : te σ H fun x H1 => tl σ H1 fun l H2 => th σ H2 fun u H3 => r x l u H3 Q) : tSl r te tl th σ H Q := h
theorem a_slNone {S : Option Int → Hp → Prop} (h : S none H) : tNoPart σ H S := h
theorem a_slSome {S : Option Int → Hp → Prop} (h : te σ H fun x H1 => ∃ i, x = .int i ∧ S (some i) H1) : tPart te σ H S := h
theorem a_exI {i : Int} {S : Int → Prop} (h : S i) : ∃ j, V.int i = .int j ∧ S j := ⟨i, rfl, h⟩
theorem a_exZ {z : Str} {S : Str → Prop} (h : S z) : ∃ j, V.str z = .str j ∧ S j := ⟨z, rfl, h⟩
theorem a_slL {lo hi : Option Int} (h : H p = some (.lst xs)) (q : ∀ l H', H l = none → Same H H' → H' l = some (.lst (cutV xs lo hi)) → Q (.ref l) H') : rSlL K (.ref p) lo hi H Q := ⟨p, xs, rfl, SqL.of h, nw q⟩
theorem a_slZ {z : Str} {lo hi : Option Int} (l : z.length ≤ sizeLine) (q : Q (.str (cutS z lo hi)) H) : rSlS (.str z) lo hi H Q := ⟨z, rfl, l, q⟩
/-- a part of a tuple: it, or a new one -/
theorem a_slT {lo hi : Option Int} (h : H p = some (.tup xs)) (q : ∀ l H', Same H H' → H' l = some (.tup (cutV xs lo hi)) → Q (.ref l) H') : rSlA K (.ref p) lo hi H Q := by
  refine ⟨p, xs, rfl, SqT.of h, fun ⟨h1, h2⟩ => q p H (Same.refl H) ?_, fun _ => nw fun l H' _ s e => q l H' s e⟩
  have e : cutV xs lo hi = xs := by
    unfold cutV
    rw [h1, h2]
    simp
  rw [e]; exact h
theorem a_bm {T : String} {r : V → List V → Hp → VK → Prop} {t : TA} (h : ta σ H fun x H1 => tyV K T x H1 ∧ t σ H1 fun xs H2 => r x xs H2 Q) : tBM K T r ta t σ H Q := h
theorem a_app {y : V} (h : H p = some (.lst xs)) (l : xs.length < 100000) (q : Q .non (upd H p (.lst (xs ++ [y])))) : rAppend (.ref p) [y] H Q := ⟨p, xs, y, rfl, rfl, h, Nat.lt_of_lt_of_le l (by decide), q⟩
theorem ty_lst (h : H p = some (.lst xs)) : tyV K "list" (.ref p) H := .inl ⟨rfl, _, SqL.of h⟩
/-- == of data -/
theorem a_eqD {x y : V} {d e : PyData} (hd : Dp K H x d) (he : Dp K H y e) (sd : SeqAt.shaped d = true) (se : SeqAt.shaped e = true) (q : Q (.bl (PyData.eqv d e)) H) : rEqD K x y H Q := ⟨d, e, hd, he, sd, se, q⟩
theorem a_neD {x y : V} {d e : PyData} (hd : Dp K H x d) (he : Dp K H y e) (sd : SeqAt.shaped d = true) (se : SeqAt.shaped e = true) (q : Q (.bl (!PyData.eqv d e)) H) : rNeD K x y H Q := ⟨d, e, hd, he, sd, se, q⟩
end
end QB
set_option Elab.async false
set_option linter.all false
set_option maxRecDepth 100000
set_option maxHeartbeats 4000000
namespace QB
open PySem PySem.Spec L2
open PyProof.Rows (envOfC)
open RZ (Ty4 rIsTy call_isTy pi_zipA iZipA ItzT for_zipT for_zipL)

/-! ### what is walked, by its items -/
/-- from any heap that holds F the walk gives n items, the i-th by Y -/
structure ItOk (J : It) (F : Hp) (n : Nat) (Y : Nat → V → Hp → Prop) : Prop where
  go : ∀ i H, Same F H → i < n → J.go i H
  stop : ∀ H, Same F H → J.stop n H
  yld : ∀ i H x H', Same F H → i < n → J.yld i H x H' → Same H H' ∧ Y i x H'
section
variable {K : PySem.W.Frag} {F : Hp} {a b : Addr} {xs ys : List V}
theorem it_list (h : F a = some (.lst xs)) : ItOk (Itl K a) F xs.length (fun i x _ => xs[i]? = some x) where
  go := fun i H s hi => ⟨xs, xs[i], SqL.of (s _ _ h), by simp [hi]⟩
  stop := fun H s => ⟨xs, SqL.of (s _ _ h), Nat.le_refl _⟩
  yld := fun i H x H' s hi ⟨e, y⟩ => by subst e; exact ⟨Same.refl H', y xs (SqL.of (s _ _ h))⟩
theorem it_tup (h : F a = some (.tup xs)) : ItOk (Itt K a) F xs.length (fun i x _ => xs[i]? = some x) where
  go := fun i H s hi => ⟨xs, xs[i], SqT.of (s _ _ h), by simp [hi]⟩
  stop := fun H s => ⟨xs, SqT.of (s _ _ h), Nat.le_refl _⟩
  yld := fun i H x H' s hi ⟨e, y⟩ => by subst e; exact ⟨Same.refl H', y xs (SqT.of (s _ _ h))⟩
theorem it_str (z : Str) : ItOk (Its z) F z.cps.size (fun i x _ => ∃ c, z.cps[i]? = some c ∧ x = .str ⟨#[c]⟩) where
  go := fun i H _ hi => hi
  stop := fun H _ => Nat.le_refl _
  yld := fun i H x H' _ hi ⟨e, y⟩ => by subst e; exact ⟨Same.refl H', y⟩
theorem it_range (lo : Int) (n : Nat) : ItOk (Itr lo n) F n (fun i x _ => x = .int (lo + i)) where
  go := fun i H _ hi => hi
  stop := fun H _ => Nat.le_refl _
  yld := fun i H x H' _ hi ⟨e, y⟩ => by subst e; exact ⟨Same.refl H', y⟩
/-- a new tuple of both -/
def YZip (xs ys : List V) : Nat → V → Hp → Prop := fun i v H => ∃ T x y, v = .ref T ∧ H T = some (.tup [x, y]) ∧ xs[i]? = some x ∧ ys[i]? = some y
theorem it_zipL (ha : F a = some (.lst xs)) (hb : F b = some (.lst ys)) : ItOk (Itz K a b) F (min xs.length ys.length) (YZip xs ys) where
  go := fun i H s hi => ⟨xs, ys, xs[i]'(by omega), ys[i]'(by omega), SqL.of (s _ _ ha), SqL.of (s _ _ hb), by simp, by simp⟩
  stop := fun H s => ⟨xs, ys, SqL.of (s _ _ ha), SqL.of (s _ _ hb), by omega⟩
  yld := fun i H v H' s hi ⟨T, x, y, e, n, e2, h1, h2⟩ => by
    subst e2
    exact ⟨same_new n, T, x, y, e, upd_same, h1 xs (SqL.of (s _ _ ha)), h2 ys (SqL.of (s _ _ hb))⟩
theorem it_zipT (ha : F a = some (.tup xs)) (hb : F b = some (.tup ys)) : ItOk (ItzT K a b) F (min xs.length ys.length) (YZip xs ys) where
  go := fun i H s hi => ⟨xs, ys, xs[i]'(by omega), ys[i]'(by omega), SqT.of (s _ _ ha), SqT.of (s _ _ hb), by simp, by simp⟩
  stop := fun H s => ⟨xs, ys, SqT.of (s _ _ ha), SqT.of (s _ _ hb), by omega⟩
  yld := fun i H v H' s hi ⟨T, x, y, e, n, e2, h1, h2⟩ => by
    subst e2
    exact ⟨same_new n, T, x, y, e, upd_same, h1 xs (SqT.of (s _ _ ha)), h2 ys (SqT.of (s _ _ hb))⟩
end
/-- zip of two tuples -/
def iZipQ (K : PySem.W.Frag) (ta : TA) : TI := fun σ H R => ta σ H fun vs H1 => ∃ a b xs ys, vs = [.ref a, .ref b] ∧ SqT K H1 a xs ∧ SqT K H1 b ys ∧ R (ItzT K a b) H1
section
variable {X : Cx}
theorem pi_zipT {e e2 : Expr} {ta : TA} {p pos tpos : Pos} {elts : List Expr} {kk : Nat} (hg : Gl X "zip") (hm : X.mg "zip" = none) (ha : PA X [e, e2] ta)
    (hs : starEach [e, e2] X.env = (false, eval e X.env) :: starEach [e2] X.env := by rfl) (hpl : (backTo pos (starEach [e2] X.env)).any (·.1) = false := by rfl) :
    PI X (.Tuple elts kk tpos) (.Call (.Name "zip" p) [e, e2] [] pos) (iZipA X.K ta) := pi_zipA hg hm ha hs hpl
end

/-! ### the walks' readings -/
section
variable {K : PySem.W.Frag} {σ : L2.St} {H : Hp} {te : TE} {ta : TA} {R : It → Hp → Prop} {a b : Addr} {xs ys : List V}
theorem w_list (h : te σ H fun x H1 => ∃ a, x = .ref a ∧ (∃ xs, SqL K H1 a xs) ∧ R (Itl K a) H1) : iList K te σ H R := h
theorem w_tup (h : te σ H fun x H1 => ∃ a, x = .ref a ∧ (∃ xs, SqT K H1 a xs) ∧ R (Itt K a) H1) : iTup K te σ H R := h
theorem w_str (h : te σ H fun v H1 => ∃ x, v = .str x ∧ R (Its x) H1) : iStr te σ H R := h
theorem w_rng1 (h : ta σ H fun vs H1 => ∃ j : Int, vs = [.int j] ∧ -(2 ^ 62) ≤ j ∧ j < 2 ^ 62 ∧ R (Itr 0 j.toNat) H1) : iRng1 ta σ H R := h
theorem w_zip (h : ta σ H fun vs H1 => ∃ a b xs ys, vs = [.ref a, .ref b] ∧ SqL K H1 a xs ∧ SqL K H1 b ys ∧ R (Itz K a b) H1) : iZip K ta σ H R := h
theorem w_zipA (h : ta σ H fun vs H1 => ∃ a b xs ys, vs = [.ref a, .ref b] ∧ ((SqL K H1 a xs ∧ SqL K H1 b ys ∧ R (Itz K a b) H1) ∨ (SqT K H1 a xs ∧ SqT K H1 b ys ∧ R (ItzT K a b) H1))) : iZipA K ta σ H R := h
end

/-! ### comprehensions -/
/-- between two turns: the list at D holds what is made so far -/
def LcN (F : Hp) (D : Addr) (R : Nat → List V → Hp → Prop) (i : Nat) (H : Hp) : Prop := ∃ acc, Same F H ∧ H D = some (.lst acc) ∧ acc.length ≤ i ∧ R i acc H
/-- what a comprehension's walk asks -/
def LcW (J : It) (g : TG) (tt : TT) (te : TE) (vs : List Nat) (σ : L2.St) (H1 : Hp) (D : Addr) (Q : VK) : Prop := ∃ W : Nat → Nat → Hp → Prop, (∃ m, W 0 m (upd H1 D (.lst []))) ∧ ∀ i m H, W i m H →
      (J.stop i H ∧ Q (.ref D) H) ∨ (J.go i H ∧ ∃ Nx : Hp → Prop, (∀ H', Nx H' → ∃ m', m' < m ∧ W (i + 1) m' H') ∧ ∀ x H', J.yld i H x H' → g x (wipe σ vs) H' fun σ2 H2 => wipe σ2 vs = wipe σ vs ∧ tt σ2 H2 fun b H3 =>
        if b = true then te σ2 H3 fun y H4 => ∃ acc, H4 D = some (.lst acc) ∧ acc.length < sizeLine ∧ Nx (upd H4 D (.lst (acc ++ [y]))) else Nx H3)
/-- an item is put -/
def LcPut (F : Hp) (D : Addr) (R : Nat → List V → Hp → Prop) (i : Nat) (y : V) (H : Hp) : Prop := ∃ acc, H D = some (.lst acc) ∧ acc.length < sizeLine ∧ LcN F D R (i + 1) (upd H D (.lst (acc ++ [y])))
theorem tsm_lst {H : Hp} {D : Addr} {xs ys : List V} (h : H D = some (.lst xs)) : Tsm H (upd H D (.lst ys)) := fun a zs e => by
  have n : a ≠ D := by rintro rfl; rw [h] at e; cases e
  rw [upd_ne n]; exact e
theorem Tsm.new {H : Hp} {p : Addr} {o : HO} (h : H p = Option.none) : Tsm H (upd H p o) := tsS (same_new h)
section
variable {K : PySem.W.Frag} {J : It} {F : Hp} {n : Nat} {Y : Nat → V → Hp → Prop} {g : TG} {tt : TT} {te : TE} {vs : List Nat} {σ : L2.St} {D : Addr} {Q : VK} {H1 : Hp}
theorem lc_put {R : Nat → List V → Hp → Prop} {H : Hp} {acc : List V} {y : V} {i : Nat} (hn : i < 100000) (hD : F D = Option.none) (st : ∀ i acc H H', Tsm H H' → R i acc H → R i acc H') (s : Same F H) (h : H D = some (.lst acc)) (l : acc.length ≤ i) (r : R (i + 1) (acc ++ [y]) H) :
    LcPut F D R i y H :=
  ⟨acc, h, Nat.lt_of_le_of_lt l (Nat.lt_of_lt_of_le hn (by decide)), _, same_mut s hD, upd_same, by simp; omega, st _ _ _ _ (tsm_lst h) r⟩
theorem lc_skip {R : Nat → List V → Hp → Prop} {H : Hp} {acc : List V} {i : Nat} (s : Same F H) (h : H D = some (.lst acc)) (l : acc.length ≤ i) (r : R (i + 1) acc H) : LcN F D R (i + 1) H := ⟨acc, s, h, by omega, r⟩
/-- a comprehension: R between the turns -/
theorem lc_go (ok : ItOk J F n Y) (hF : Same F H1) (hD : H1 D = Option.none) (R : Nat → List V → Hp → Prop) (h0 : R 0 [] H1) (st : ∀ i acc H H', Tsm H H' → R i acc H → R i acc H')
    (turn : ∀ i acc H x, i < n → Same F H → H D = some (.lst acc) → acc.length ≤ i → R i acc H → Y i x H → g x (wipe σ vs) H fun σ2 H2 => wipe σ2 vs = wipe σ vs ∧ tt σ2 H2 fun b H3 =>
      if b = true then te σ2 H3 fun y H4 => LcPut F D R i y H4 else LcN F D R (i + 1) H3)
    (done : ∀ acc H, Same F H → H D = some (.lst acc) → acc.length ≤ n → R n acc H → Q (.ref D) H) :
    LcW J g tt te vs σ H1 D Q := by
  refine ⟨fun i m H => m = n - i ∧ i ≤ n ∧ LcN F D R i H, ⟨n, by simp, Nat.zero_le _, [], fun b u e => ?_, upd_same, Nat.le_refl _, st _ _ _ _ (Tsm.new hD) h0⟩, ?_⟩
  · rw [upd_ne (ne_of_none (hF _ _ e) hD)]; exact hF _ _ e
  · rintro i m H ⟨rfl, hi, acc, s, h, l, r⟩
    by_cases hlt : i < n
    · refine .inr ⟨ok.go i H s hlt, LcN F D R (i + 1), fun H' p' => ⟨n - (i + 1), by omega, rfl, hlt, p'⟩, fun x H' y => ?_⟩
      obtain ⟨s', y'⟩ := ok.yld i H x H' s hlt y
      exact turn i acc H' x hlt (s.trans s') (s' _ _ h) l (st _ _ _ _ (tsS s') r) y'
    · have e : i = n := by omega
      subst e
      exact .inl ⟨ok.stop H s, done acc H s h l r⟩
theorem a_lc {wi : TI} (h : wi σ H1 fun J H1 => ∀ D, H1 D = none → LcW J g tt te vs σ H1 D Q) : tLc wi g tt te vs σ H1 Q := h
theorem a_yes {H : Hp} {QB : Bool → Hp → Prop} (h : QB true H) : tYes σ H QB := h
/-- targets -/
theorem a_gtup {m : Nat} {t : TGs} {a : Addr} {xs : List V} {H : Hp} {S : L2.St → Hp → Prop} (h : H a = some (.tup xs)) (l : xs.length = m) (q : t xs σ H S) : gTup K m t (.ref a) σ H S := ⟨a, xs, rfl, SqT.of h, l, q⟩
theorem a_gcons {t : TG} {u : TGs} {v : V} {r : List V} {H : Hp} {S : L2.St → Hp → Prop} (q : t v σ H fun σ' H' => u r σ' H' S) : gCons t u (v :: r) σ H S := ⟨v, r, rfl, q⟩
theorem a_gnil {H : Hp} {S : L2.St → Hp → Prop} (q : S σ H) : gNil [] σ H S := ⟨rfl, q⟩
end
end QB
set_option Elab.async false
set_option linter.all false
set_option maxRecDepth 100000
set_option maxHeartbeats 4000000
namespace QB
open PySem PySem.Spec L2
open PyProof.Rows (envOfC)
open PySem.PyData (strOk)

theorem hu65 {A : PySem.Around} {k : Nat} (hr : Room k A) : A.units + 65 < cLine := by have := hr.un; omega
theorem a_chain {σ : L2.St} {H : Hp} {Q : VK} {r r' : R2} {ta tb tc : TE} (h : ta σ H fun x H1 => tb σ H1 fun y H2 => r x y H2 fun z H3 => ∃ k, z = .bl k ∧ (if k = true then tc σ H3 fun w' H4 => r' y w' H4 Q else Q (.bl false) H3)) : tChain r r' ta tb tc σ H Q := h
theorem iteNT {A B : Prop} (h : B) : if (!true) = true then A else B := h
theorem iteNF {A B : Prop} (h : A) : if (!false) = true then A else B := h
theorem iteD {p A B : Prop} [Decidable p] (h1 : p → A) (h2 : ¬ p → B) : if decide p = true then A else B := by
  by_cases h : p
  · rw [decide_eq_true h]; exact h1 h
  · rw [decide_eq_false h]; exact h2 h
theorem iteDN {p A B : Prop} [Decidable p] (h1 : ¬ p → A) (h2 : p → B) : if (!decide p) = true then A else B := by
  by_cases h : p
  · rw [decide_eq_true h]; exact h2 h
  · rw [decide_eq_false h]; exact h1 h
theorem iteY {p A B : Prop} [Decidable p] (h : p) (q : A) : if decide p = true then A else B := iteD (fun _ => q) fun n => absurd h n
theorem iteZ {p A B : Prop} [Decidable p] (h : ¬ p) (q : B) : if decide p = true then A else B := iteD (fun n => absurd n h) fun _ => q
theorem iteYN {p A B : Prop} [Decidable p] (h : p) (q : B) : if (!decide p) = true then A else B := iteDN (fun n => absurd h n) fun _ => q
theorem iteZN {p A B : Prop} [Decidable p] (h : ¬ p) (q : A) : if (!decide p) = true then A else B := iteDN (fun _ => q) fun n => absurd n h
/-! ### data at hand -/
theorem dp_strs {K : PySem.W.Frag} {H : Hp} : ∀ ss : List Str, DpAll K H (ss.map V.str) (ss.map PyData.str)
  | [] => .nil
  | z :: ss => .cons (.str z) (dp_strs ss)
theorem dp_tupS {K : PySem.W.Frag} {H : Hp} {a : Addr} {ss : List Str} (h : H a = some (.tup (ss.map V.str))) : Dp K H (.ref a) (.tuple (ss.map PyData.str)) := .tup (SqT.of h) (dp_strs ss)
theorem dp_lstS {K : PySem.W.Frag} {H : Hp} {a : Addr} {ss : List Str} (h : H a = some (.lst (ss.map V.str))) : Dp K H (.ref a) (.list (ss.map PyData.str)) := .lst (SqL.of h) (dp_strs ss)
theorem lay_strs : ∀ ss : List Str, (∀ z ∈ ss, strOk z = true) → PyData.canLayAll0 (ss.map PyData.str) = true
  | [], _ => rfl
  | z :: ss, h => by
    show (strOk z && PyData.canLayAll0 (ss.map PyData.str)) = true
    rw [h z List.mem_cons_self, lay_strs ss fun y hy => h y (List.mem_cons_of_mem _ hy)] <;> rfl
theorem depth_strs : ∀ ss : List Str, PyData.depthAll (ss.map PyData.str) = 0
  | [] => rfl
  | z :: ss => by simp [PyData.depthAll, PyData.depth, depth_strs ss]
theorem shaped_tupS {ss : List Str} (h : ∀ z ∈ ss, strOk z = true) : SeqAt.shaped (.tuple (ss.map PyData.str)) = true := by
  simp [SeqAt.shaped, PyData.canLay0, PyData.depth, lay_strs ss h, depth_strs]
theorem shaped_lstS {ss : List Str} (h : ∀ z ∈ ss, strOk z = true) : SeqAt.shaped (.list (ss.map PyData.str)) = true := by
  simp [SeqAt.shaped, PyData.canLay0, PyData.depth, lay_strs ss h, depth_strs]
theorem eqv_str (x y : Str) : PyData.eqv (.str x) (.str y) = decide (x = y) := by
  show (x == y) = decide (x = y)
  exact Bool.beq_eq_decide_eq x y
theorem eqvAll_strs : ∀ xs ys : List Str, PyData.eqvAll (xs.map PyData.str) (ys.map PyData.str) = decide (xs = ys)
  | [], [] => rfl
  | [], y :: ys => rfl
  | x :: xs, [] => rfl
  | x :: xs, y :: ys => by
    show (PyData.eqv (.str x) (.str y) && PyData.eqvAll (xs.map PyData.str) (ys.map PyData.str)) = _
    rw [eqv_str, eqvAll_strs xs ys]
    by_cases h1 : x = y <;> by_cases h2 : xs = ys <;> simp [h1, h2]
theorem eqv_tupS (xs ys : List Str) : PyData.eqv (.tuple (xs.map PyData.str)) (.tuple (ys.map PyData.str)) = decide (xs = ys) := eqvAll_strs xs ys
theorem eqv_lstS (xs ys : List Str) : PyData.eqv (.list (xs.map PyData.str)) (.list (ys.map PyData.str)) = decide (xs = ys) := eqvAll_strs xs ys

/-! ### < of data -/
def rLtD (K : PySem.W.Frag) : R2 := fun x y H Q => ∃ d e, Dp K H x d ∧ Dp K H y e ∧ PySem.W.alike d e = true ∧ d ≠ .none ∧ min d.depth e.depth ≤ 8 ∧ Q (.bl (PySem.W.dataLt d e)) H
theorem op_ltD0 {X : Cx} (hu : X.A.units + 64 < cLine) : OpR X (compareOp .Lt) (rLtD X.K) := by
  intro pins s σ H x y v u Q I rx ry h
  obtain ⟨d, e, hd, he, al, nn, dp, q⟩ := h
  obtain ⟨as, r1⟩ := Dp.reads I d x v hd rx
  obtain ⟨bs, r2⟩ := Dp.reads I e y u he ry
  have R := PySem.W.rcLt_alike d e X.A s v u as bs r1 r2 al nn (by omega)
  exact R X.prog X.w X.xe _ ⟨.bl _, H, I, rfl, q⟩
/-! ### rules with the written part named -/
section
variable {X : Cx} {K : PySem.W.Frag}
theorem op_ltD (hu : X.A.units + 64 < cLine) (hK : X.K = K := by rfl) : OpR X (compareOp .Lt) (rLtD K) := by subst hK; exact op_ltD0 hu
theorem ki_in (hK : X.K = K := by rfl) : OpR X (compareOp .In) (rIn K false) := by subst hK; exact op_in_seq
theorem ki_notin (hK : X.K = K := by rfl) : OpR X (compareOp .NotIn) (rIn K true) := by subst hK; exact op_notIn_seq
theorem ki_inD (hu : X.A.units + 65 < cLine) (hK : X.K = K := by rfl) : OpR X (compareOp .In) (rInD K) := by subst hK; exact op_inD hu
theorem ki_notinD (hu : X.A.units + 65 < cLine) (hK : X.K = K := by rfl) : OpR X (compareOp .NotIn) (rNotInD K) := by subst hK; exact op_notInD hu
theorem ki_eqD (hu : X.A.units + 64 < cLine) (hK : X.K = K := by rfl) : OpR X (compareOp .Eq) (rEqD K) := by subst hK; exact op_eqD hu
theorem ki_neD (hu : X.A.units + 64 < cLine) (hK : X.K = K := by rfl) : OpR X (compareOp .NotEq) (rNeD K) := by subst hK; exact op_neD hu
theorem ki_catA (hK : X.K = K := by rfl) : OpR X (binaryOp .Add) (rCatA K) := by subst hK; exact op_catA
theorem ki_ixL (hK : X.K = K := by rfl) : IxR X (rIxL K) := by subst hK; exact ix_list
theorem ki_ixT (hK : X.K = K := by rfl) : IxR X (rIxT K) := by subst hK; exact ix_tup
theorem ki_slL (hK : X.K = K := by rfl) : SlR X (rSlL K) := by subst hK; exact sl_list
theorem ki_slA (hK : X.K = K := by rfl) : SlR X (rSlA K) := by subst hK; exact sl_tupA
theorem ki_len (hK : X.K = K := by rfl) : CallR X (.builtin "len") (rLenQ K) := by subst hK; exact c_len
theorem ki_all (hc : X.calm = true) (hK : X.K = K := by rfl) : CallR X (.builtin "all") (rAll K) := by subst hK; exact cr_all hc
theorem ki_min (hc : X.calm = true) (hK : X.K = K := by rfl) : CallR X (.builtin "min") (rMin K) := by subst hK; exact cr_min hc
theorem ki_max (hc : X.calm = true) (hK : X.K = K := by rfl) : CallR X (.builtin "max") (rMax K) := by subst hK; exact cr_max hc
theorem ki_tuple (hK : X.K = K := by rfl) : CallR X (.type "tuple") (rTupOf K) := by subst hK; exact c_tuple
theorem ki_list (hK : X.K = K := by rfl) : CallR X (.type "list") (rListQ K) := by subst hK; exact c_list
theorem ki_isi (hK : X.K = K := by rfl) : CallR X (.builtin "isinstance") (rIsi K) := by subst hK; exact call_isi
theorem ki_fld {e : Expr} {f : Str} {pos : Pos} {ta : TE} (he : PE X e ta) (hb : attributeBase e f X.env (eval e X.env) = eval e X.env) (hK : X.K = K := by rfl) : PE X (.Attribute e f pos) (tFld K ta f) := by subst hK; exact pe_fld he hb
theorem ki_gtup {es : List Expr} {k : Nat} {t : TGs} {n : Nat} {pos : Pos} (hc : X.calm = true) (h : PGs X es t)
    (hn : (assignEach es X.env).length = n := by rfl) (hst : (assignEach es X.env).findIdx? (·.1) = none := by rfl) (hK : X.K = K := by rfl) : PG X (.Tuple es k pos) (gTup K n t) := by subst hK; exact pg_tup hc h hn hst
variable {tg l : Expr} {tl : TE}
theorem ki_plist (hl : PE X l tl) (hK : X.K = K := by rfl) : PI X tg l (iList K tl) := by subst hK; exact pi_list hl
theorem ki_ptup (hl : PE X l tl) (hK : X.K = K := by rfl) : PI X tg l (iTup K tl) := by subst hK; exact pi_tup hl
end
/-- the order of texts, of pairs of texts -/
def ltS (x y : Str) : Bool := decide (x.cps.toList < y.cps.toList)
def ltP (p q : Str × Str) : Bool := if p.1 = q.1 then ltS p.2 q.2 else ltS p.1 q.1
theorem dataLt_pairS (p q : Str × Str) : PySem.W.dataLt (.tuple [.str p.1, .str p.2]) (.tuple [.str q.1, .str q.2]) = ltP p q := by
  rw [PySem.W.dataLt_pair rfl rfl, eqv_str, eqv_str, PySem.W.dataLt_str, PySem.W.dataLt_str]
  unfold ltP ltS
  by_cases h1 : p.1 = q.1
  · rw [if_pos (by simp [h1]), if_pos h1]
    by_cases h2 : p.2 = q.2
    · rw [if_pos (by simp [h2]), h2]
      symm
      apply decide_eq_false
      exact List.lt_irrefl _
    · rw [if_neg (by simp [h2])]
  · rw [if_neg (by simp [h1]), if_neg h1]
section
variable {K : PySem.W.Frag} {H : Hp} {Q : VK}
/-- (x, y) < (z, w), texts -/
theorem a_ltP {a b : Addr} {p q : Str × Str} (ha : H a = some (.tup [.str p.1, .str p.2])) (hb : H b = some (.tup [.str q.1, .str q.2])) (k : Q (.bl (ltP p q)) H) : rLtD K (.ref a) (.ref b) H Q := by
  refine ⟨.tuple [.str p.1, .str p.2], .tuple [.str q.1, .str q.2], .tup (SqT.of ha) (.cons (.str _) (.cons (.str _) .nil)), .tup (SqT.of hb) (.cons (.str _) (.cons (.str _) .nil)), rfl, (fun z => nomatch z), ?_, ?_⟩
  · simp [PyData.depth, PyData.depthAll]
  · rw [dataLt_pairS]; exact k
theorem a_eqT {neg : Bool} {a b : Addr} {xs ys : List Str} (ha : H a = some (.tup (xs.map V.str))) (hb : H b = some (.tup (ys.map V.str))) (ox : ∀ z ∈ xs, strOk z = true) (oy : ∀ z ∈ ys, strOk z = true) (k : Q (.bl (decide (xs = ys))) H) : rEqD K (.ref a) (.ref b) H Q :=
  a_eqD (dp_tupS ha) (dp_tupS hb) (shaped_tupS ox) (shaped_tupS oy) (by rw [eqv_tupS]; exact k)
theorem a_neT {a b : Addr} {xs ys : List Str} (ha : H a = some (.tup (xs.map V.str))) (hb : H b = some (.tup (ys.map V.str))) (ox : ∀ z ∈ xs, strOk z = true) (oy : ∀ z ∈ ys, strOk z = true) (k : Q (.bl (!decide (xs = ys))) H) : rNeD K (.ref a) (.ref b) H Q :=
  a_neD (dp_tupS ha) (dp_tupS hb) (shaped_tupS ox) (shaped_tupS oy) (by rw [eqv_tupS]; exact k)
theorem a_eqLS {a b : Addr} {xs ys : List Str} (ha : H a = some (.lst (xs.map V.str))) (hb : H b = some (.lst (ys.map V.str))) (ox : ∀ z ∈ xs, strOk z = true) (oy : ∀ z ∈ ys, strOk z = true) (k : Q (.bl (decide (xs = ys))) H) : rEqD K (.ref a) (.ref b) H Q :=
  a_eqD (dp_lstS ha) (dp_lstS hb) (shaped_lstS ox) (shaped_lstS oy) (by rw [eqv_lstS]; exact k)
/-- all of Trues -/
theorem a_allT {a : Addr} {acc : List V} (h : H a = some (.lst acc)) (t : ∀ v ∈ acc, v = .bl true) (k : Q (.bl true) H) : rAll K [.ref a] H Q := by
  have e : acc = (List.replicate acc.length true).map V.bl := by
    rw [List.map_replicate]
    exact List.eq_replicate_iff.mpr ⟨rfl, t⟩
  refine ⟨a, List.replicate acc.length true, rfl, SqL.of (by rw [← e]; exact h), ?_⟩
  have e2 : (List.replicate acc.length true).all id = true := by simp
  rw [e2]; exact k
end
/-- a name -/
structure NameOk (z : Str) : Prop where
  one : 1 ≤ z.length
  most : z.length ≤ 8
  low : ∀ c ∈ z.cps.toList, 97 ≤ c ∧ c ≤ 122
theorem NameOk.ok {z : Str} (n : NameOk z) : strOk z = true := by
  show z.cps.all (· < 0x110000) = true
  rw [Array.all_eq_true']
  intro c hc
  have h := n.low c (by simpa using hc)
  simp only [decide_eq_true_eq]
  omega

/-! ### parts -/
theorem cut_drop {xs : List V} {k : Nat} {i : Int} (hi : i = (k : Int)) : cutV xs (some i) none = xs.drop k := by
  subst hi
  unfold cutV
  rw [HT.sIx_nat, HT.sIx_none]
  by_cases h : k ≤ xs.length
  · rw [Nat.min_eq_left h, List.take_of_length_le (by rw [List.length_drop]; exact Nat.le_refl _)]
  · rw [Nat.min_eq_right (by omega), List.drop_eq_nil_of_le (by omega : xs.length ≤ k), List.drop_length]; simp
theorem cut_take {xs : List V} {k : Nat} {i : Int} (hi : i = (k : Int)) : cutV xs none (some i) = xs.take k := by
  subst hi
  unfold cutV
  rw [HT.sIx_nat, HT.sIx_none, List.drop_zero, Nat.sub_zero]
  by_cases h : k ≤ xs.length
  · rw [Nat.min_eq_left h]
  · rw [Nat.min_eq_right (by omega), List.take_of_length_le (by omega : xs.length ≤ k), List.take_length]
theorem cut1 (xs : List V) : cutV xs (some 1) none = xs.drop 1 := cut_drop rfl
/-! ### fields stored -/
theorem a_sfld {K : PySem.W.Frag} {D : Ends} {σ : L2.St} {H : Hp} {ta tv : TE} {f : Str} (h : tv σ H fun y H1 => ta σ H1 fun x H2 => ∃ a C dx fs, x = .ref a ∧ H2 a = some (.ins C dx fs) ∧ Cls K C ∧ NoAttr K C f ∧ fs.length < 1000 ∧ D.nx σ (upd H2 a (.ins C dx (putF f y fs)))) :
    sFld K ta tv f D σ H := h
theorem a_put {D : L2.St → Hp → Prop} {σ : L2.St} {K : PySem.W.Frag} {H : Hp} {a C dx : Addr} {f : Str} {y : V} {fs gs : List (Str × V)} (h : H a = some (.ins C dx fs)) (c : Cls K C) (n : NoAttr K C f) (l : fs.length < 1000) (e : putF f y fs = gs) (q : D σ (upd H a (.ins C dx gs))) :
    ∃ a' C dx fs, V.ref a = .ref a' ∧ H a' = some (.ins C dx fs) ∧ Cls K C ∧ NoAttr K C f ∧ fs.length < 1000 ∧ D σ (upd H a' (.ins C dx (putF f y fs))) := ⟨a, C, dx, fs, rfl, h, c, n, l, by rw [e]; exact q⟩
end QB
set_option Elab.async false
set_option linter.all false
set_option maxRecDepth 100000
set_option maxHeartbeats 4000000
namespace QB
open PySem PySem.Spec L2
open PyProof.Rows (envOfC)
open PySem.PyData (strOk)

/-! ### plain data of the program -/
/-- each is less than the next one -/
def AscL {α : Type} (lt : α → α → Bool) (l : List α) : Prop := ∀ (i : Nat) x y, l[i]? = some x → l[i + 1]? = some y → lt x y = true
structure Lnk where
  a : Str
  b : Str
  th : Int
  bk : Int
  deriving DecidableEq
def Lnk.ab (l : Lnk) : Str × Str := (l.a, l.b)
structure RoutersOk (R : List Str) : Prop where
  two : 2 ≤ R.length
  most : R.length ≤ 8
  names : ∀ z ∈ R, NameOk z
  asc : AscL ltS R
structure LinkOk (R : List Str) (l : Lnk) : Prop where
  ra : l.a ∈ R
  rb : l.b ∈ R
  lt : ltS l.a l.b = true
  th : 1 ≤ l.th
  bk : 1 ≤ l.bk
structure LinksOk (R : List Str) (ls : List Lnk) : Prop where
  most : ls.length ≤ 16
  each : ∀ l ∈ ls, LinkOk R l
  asc : AscL ltP (ls.map Lnk.ab)
theorem LinkOk.na {R : List Str} {l : Lnk} (r : RoutersOk R) (h : LinkOk R l) : NameOk l.a := r.names _ h.ra
theorem LinkOk.nb {R : List Str} {l : Lnk} (r : RoutersOk R) (h : LinkOk R l) : NameOk l.b := r.names _ h.rb

/-! ### as it lies in the heap -/
def LinkAt (H : Hp) (v : V) (l : Lnk) : Prop := ∃ t, v = .ref t ∧ H t = some (.tup [.str l.a, .str l.b, .int l.th, .int l.bk])
def PairAt (H : Hp) (v : V) (p : Str × Str) : Prop := ∃ t, v = .ref t ∧ H t = some (.tup [.str p.1, .str p.2])
theorem LinkAt.ts {H H' : Hp} {v : V} {l : Lnk} (s : Tsm H H') (h : LinkAt H v l) : LinkAt H' v l := by
  obtain ⟨t, e, q⟩ := h
  exact ⟨t, e, s _ _ q⟩
theorem PairAt.ts {H H' : Hp} {v : V} {l : Str × Str} (s : Tsm H H') (h : PairAt H v l) : PairAt H' v l := by
  obtain ⟨t, e, q⟩ := h
  exact ⟨t, e, s _ _ q⟩
abbrev LinksAt (H : Hp) : List V → List Lnk → Prop := Paired (LinkAt H)
theorem paired_ts {β : Type} {F : Hp → V → β → Prop} (hF : ∀ H H' v b, Tsm H H' → F H v b → F H' v b) {H H' : Hp} (s : Tsm H H') {vs : List V} {bs : List β} (h : Paired (F H) vs bs) : Paired (F H') vs bs :=
  Paired.mapP h fun _ _ q => hF _ _ _ _ s q
theorem LinksAt.ts {H H' : Hp} (s : Tsm H H') {vs : List V} {ls : List Lnk} (h : LinksAt H vs ls) : LinksAt H' vs ls := paired_ts (fun _ _ _ _ s q => q.ts s) s h
theorem paired_get {α β : Type} {F : α → β → Prop} : ∀ {xs : List α} {ys : List β} {i : Nat} {x : α}, Paired F xs ys → xs[i]? = some x → ∃ y, ys[i]? = some y ∧ F x y
  | _, _, _, _, .nil, e => by simp at e
  | _, _, 0, _, .cons r _, e => by simp at e; subst e; exact ⟨_, rfl, r⟩
  | _, _, i + 1, x, .cons _ t, e => by
    obtain ⟨u, h1, h2⟩ := paired_get (i := i) (x := x) t (by simpa using e)
    exact ⟨u, by simpa using h1, h2⟩
theorem paired_getR {α β : Type} {F : α → β → Prop} : ∀ {xs : List α} {ys : List β} {i : Nat} {y : β}, Paired F xs ys → ys[i]? = some y → ∃ x, xs[i]? = some x ∧ F x y
  | _, _, _, _, .nil, e => by simp at e
  | _, _, 0, _, .cons r _, e => by simp at e; subst e; exact ⟨_, rfl, r⟩
  | _, _, i + 1, x, .cons _ t, e => by
    obtain ⟨u, h1, h2⟩ := paired_getR (i := i) (y := x) t (by simpa using e)
    exact ⟨u, by simpa using h1, h2⟩
/-- a net at an address -/
structure NetAt (CN : Addr) (H : Hp) (n : Addr) (R : List Str) (ls : List Lnk) : Prop where
  at_ : ∃ dx r l vs, H n = some (.ins CN dx [("own_routers", .ref r), ("own_links", .ref l)]) ∧ H r = some (.tup (R.map V.str)) ∧ H l = some (.tup vs) ∧ LinksAt H vs ls
theorem NetAt.same {CN : Addr} {H H' : Hp} {n : Addr} {R : List Str} {ls : List Lnk} (s : Same H H') (h : NetAt CN H n R ls) : NetAt CN H' n R ls := by
  obtain ⟨dx, r, l, vs, h1, h2, h3, h4⟩ := h.at_
  exact ⟨dx, r, l, vs, s _ _ h1, s _ _ h2, s _ _ h3, h4.ts (tsS s)⟩
end QB
set_option Elab.async false
set_option linter.all false
set_option maxRecDepth 100000
set_option maxHeartbeats 4000000
namespace QB
open PySem PySem.Spec L2
open PyProof.Rows (envOfC)
open PySem.PyData (strOk)

/-! ### a list with no name twice -/
theorem nodup_le {α : Type} [DecidableEq α] : ∀ {l m : List α}, l.Nodup → (∀ x ∈ l, x ∈ m) → l.length ≤ m.length
  | [], _, _, _ => Nat.zero_le _
  | a :: l, m, n, h => by
    have ha : a ∈ m := h a (by simp)
    have n' := List.nodup_cons.mp n
    have ih := nodup_le (l := l) (m := m.erase a) n'.2 fun x hx => by
      have : x ≠ a := by rintro rfl; exact n'.1 hx
      exact (List.mem_erase_of_ne this).mpr (h x (by simp [hx]))
    rw [List.length_erase_of_mem ha] at ih
    have := List.length_pos_of_mem ha
    simp only [List.length_cons]
    omega

/-! ### dicts, by what they hold -/
section
variable {κ : Type} [DecidableEq κ]
structure KeyOk (dom : List κ) (f : κ → Option V) (kvs : List (κ × V)) : Prop where
  val : ∀ k, valV kvs k = f k
  nd : (kvs.map (·.1)).Nodup
  dom : ∀ k ∈ kvs.map (·.1), k ∈ dom
theorem KeyOk.le {dom : List κ} {f : κ → Option V} {kvs : List (κ × V)} (h : KeyOk dom f kvs) : kvs.length ≤ dom.length := by
  have := nodup_le h.nd h.dom
  simpa using this
theorem KeyOk.nil {dom : List κ} : KeyOk dom (fun _ => none) [] := ⟨fun _ => rfl, .nil, fun _ h => nomatch h⟩
theorem valV_mem {kvs : List (κ × V)} {k : κ} : (valV kvs k).isSome = true ↔ k ∈ kvs.map (·.1) := by
  rw [← valV_any, List.any_eq_true]
  constructor
  · rintro ⟨x, hx, e⟩
    exact List.mem_map.mpr ⟨x, hx, of_decide_eq_true e⟩
  · intro h
    obtain ⟨x, hx, e⟩ := List.mem_map.mp h
    exact ⟨x, hx, decide_eq_true e⟩
theorem KeyOk.put {dom : List κ} {f : κ → Option V} {kvs : List (κ × V)} {k : κ} (h : KeyOk dom f kvs) (hk : k ∈ dom) (v : V) : KeyOk dom (fun j => if j = k then some v else f j) (putK kvs k v) := by
  refine ⟨fun j => by rw [valV_put, h.val], ?_, ?_⟩
  · unfold putK
    split
    · have e : (kvs.map fun kv => if kv.1 = k then (kv.1, v) else kv).map (·.1) = kvs.map (·.1) := by
        rw [List.map_map]
        apply List.map_congr_left
        intro x _
        simp only [Function.comp]
        split <;> rfl
      rw [e]; exact h.nd
    · rename_i hn
      rw [List.map_append]
      refine List.nodup_append.mpr ⟨h.nd, by simp, ?_⟩
      intro a ha b hb
      have hb : b = k := by simpa using hb
      subst hb
      rintro rfl
      refine hn ?_
      rw [valV_any]
      exact valV_mem.mpr ha
  · unfold putK
    split
    · have e : (kvs.map fun kv => if kv.1 = k then (kv.1, v) else kv).map (·.1) = kvs.map (·.1) := by
        rw [List.map_map]
        apply List.map_congr_left
        intro x _
        simp only [Function.comp]
        split <;> rfl
      rw [e]; exact h.dom
    · rw [List.map_append]
      intro j hj
      rcases List.mem_append.mp hj with hj | hj
      · exact h.dom j hj
      · have hb : j = k := by simpa using hj
        rw [hb]; exact hk
theorem KeyOk.key {dom : List κ} {f : κ → Option V} {kvs : List (κ × V)} (h : KeyOk dom f kvs) {k : κ} {v : V} (e : f k = some v) : k ∈ dom := by
  refine h.dom k (valV_mem.mp ?_)
  rw [h.val, e] <;> rfl
theorem KeyOk.congr {dom : List κ} {f g : κ → Option V} {kvs : List (κ × V)} (h : KeyOk dom f kvs) (e : ∀ k, f k = g k) : KeyOk dom g kvs := ⟨fun k => (h.val k).trans (e k), h.nd, h.dom⟩
end

/-- keys of a dict by texts -/
def domS (R : List Str) : List Key := R.map Sum.inr
theorem mem_domS {R : List Str} {z : Str} : (Sum.inr z : Key) ∈ domS R ↔ z ∈ R := by
  unfold domS
  rw [List.mem_map]
  constructor
  · rintro ⟨x, h, e⟩; cases e; exact h
  · exact fun h => ⟨z, h, rfl⟩
theorem length_domS {R : List Str} : (domS R).length = R.length := List.length_map ..
/-- by pairs of texts -/
def pk (a b : Str) : List Key := [.inr a, .inr b]
theorem pk_inj {a b c d : Str} : pk a b = pk c d ↔ a = c ∧ b = d := by
  unfold pk
  constructor
  · intro h
    simp only [List.cons.injEq, Sum.inr.injEq, and_true] at h
    exact h
  · rintro ⟨rfl, rfl⟩; rfl
theorem pk_kV {a b : Str} : (pk a b).map kV = [.str a, .str b] := rfl
def domT (R S : List Str) : List (List Key) := R.flatMap fun a => S.map fun b => pk a b
theorem mem_domT {R S : List Str} {a b : Str} : pk a b ∈ domT R S ↔ a ∈ R ∧ b ∈ S := by
  unfold domT
  rw [List.mem_flatMap]
  constructor
  · rintro ⟨x, hx, h⟩
    obtain ⟨y, hy, e⟩ := List.mem_map.mp h
    obtain ⟨rfl, rfl⟩ := pk_inj.mp e
    exact ⟨hx, hy⟩
  · rintro ⟨ha, hb⟩
    exact ⟨a, ha, List.mem_map.mpr ⟨b, hb, rfl⟩⟩
theorem length_domT {R S : List Str} : (domT R S).length = R.length * S.length := by
  unfold domT
  rw [List.length_flatMap]
  simp only [List.length_map]
  induction R with
  | nil => simp
  | cons a R ih => simp only [List.map_cons, List.sum_cons, List.length_cons, ih, Nat.succ_mul]; omega

/-- a dict by texts -/
def DK (H : Hp) (p : Addr) (R : List Str) (f : Str → Option V) : Prop := ∃ kvs, H p = some (.dK kvs) ∧ (∀ z, valV kvs (.inr z) = f z) ∧ (kvs.map (·.1)).Nodup ∧ ∀ k ∈ kvs.map (·.1), k ∈ domS R
/-- a dict by pairs of texts -/
def DT (H : Hp) (p : Addr) (R S : List Str) (f : Str → Str → Option V) : Prop := ∃ kvs, H p = some (.dT kvs) ∧ (∀ a b, valV kvs (pk a b) = f a b) ∧ (kvs.map (·.1)).Nodup ∧ ∀ k ∈ kvs.map (·.1), k ∈ domT R S
theorem DK.same {H H' : Hp} {p : Addr} {R : List Str} {f : Str → Option V} (s : Same H H') (h : DK H p R f) : DK H' p R f := by
  obtain ⟨kvs, e, r⟩ := h
  exact ⟨kvs, s _ _ e, r⟩
theorem DT.same {H H' : Hp} {p : Addr} {R S : List Str} {f : Str → Str → Option V} (s : Same H H') (h : DT H p R S f) : DT H' p R S f := by
  obtain ⟨kvs, e, r⟩ := h
  exact ⟨kvs, s _ _ e, r⟩
/-- stays where what is known stays and the dict at p does -/
theorem DK.stay {H H' : Hp} {p : Addr} {R : List Str} {f : Str → Option V} (s : H' p = H p) (h : DK H p R f) : DK H' p R f := by
  obtain ⟨kvs, e, r⟩ := h
  exact ⟨kvs, s.trans e, r⟩
theorem DK.newD {H : Hp} {p : Addr} {R : List Str} (h : H p = some (.dK [])) : DK H p R fun _ => none := ⟨[], h, fun _ => rfl, .nil, fun _ h => nomatch h⟩
theorem DT.newD {H : Hp} {p : Addr} {R S : List Str} (h : H p = some (.dT [])) : DT H p R S fun _ _ => none := ⟨[], h, fun _ _ => rfl, .nil, fun _ h => nomatch h⟩
theorem DK.congr {H : Hp} {p : Addr} {R : List Str} {f g : Str → Option V} (h : DK H p R f) (e : ∀ z, f z = g z) : DK H p R g := by
  obtain rfl : f = g := funext e
  exact h
theorem DT.congr {H : Hp} {p : Addr} {R S : List Str} {f g : Str → Str → Option V} (h : DT H p R S f) (e : ∀ a b, f a b = g a b) : DT H p R S g := by
  obtain rfl : f = g := funext fun a => funext (e a)
  exact h
theorem DK.dom {H : Hp} {p : Addr} {R : List Str} {f : Str → Option V} (h : DK H p R f) {z : Str} {v : V} (e : f z = some v) : z ∈ R := by
  obtain ⟨kvs, _, hv, _, hd⟩ := h
  refine mem_domS.mp (hd _ (valV_mem.mp ?_))
  rw [hv, e] <;> rfl
section
variable {H : Hp} {p : Addr} {R S : List Str} {f : Str → Option V} {g : Str → Str → Option V} {z a b : Str} {v : V} {Q : VK}
theorem dk_get (h : DK H p R f) (l : f z = some v) (q : Q v H) : ∃ a v, V.ref p = .ref a ∧ DGet H a (.str z) (some v) ∧ Q v H := by
  obtain ⟨kvs, e, hv, _⟩ := h
  exact ⟨p, v, rfl, .inl ⟨kvs, .inr z, .inl e, rfl, ((hv z).trans l).symm⟩, q⟩
theorem dk_in {S : Option V → Hp → Prop} (h : DK H p R f) (q : S (f z) H) : ∃ a o, V.ref p = .ref a ∧ DGet H a (.str z) o ∧ S o H := by
  obtain ⟨kvs, e, hv, _⟩ := h
  exact ⟨p, f z, rfl, .inl ⟨kvs, .inr z, .inl e, rfl, (hv z).symm⟩, q⟩
theorem dt_get {t : Addr} (h : DT H p R S g) (ht : H t = some (.tup [.str a, .str b])) (l : g a b = some v) (q : Q v H) : ∃ c v, V.ref p = .ref c ∧ DGet H c (.ref t) (some v) ∧ Q v H := by
  obtain ⟨kvs, e, hv, _⟩ := h
  exact ⟨p, v, rfl, .inr ⟨kvs, pk a b, t, .inl e, rfl, ht, ((hv a b).trans l).symm⟩, q⟩
theorem dt_in {S' : Option V → Hp → Prop} {t : Addr} (h : DT H p R S g) (ht : H t = some (.tup [.str a, .str b])) (q : S' (g a b) H) : ∃ c o, V.ref p = .ref c ∧ DGet H c (.ref t) o ∧ S' o H := by
  obtain ⟨kvs, e, hv, _⟩ := h
  exact ⟨p, g a b, rfl, .inr ⟨kvs, pk a b, t, .inl e, rfl, ht, (hv a b).symm⟩, q⟩
theorem dk_dg (h : DK H p R f) : DGet H p (.str z) (f z) := by
  obtain ⟨kvs, e, hv, _⟩ := h
  exact .inl ⟨kvs, .inr z, .inl e, rfl, (hv z).symm⟩
theorem dk_ds (h : DK H p R f) (l : f z = some v) : DGet H p (.str z) (some v) := by rw [← l]; exact dk_dg h
theorem dt_dg {t : Addr} (h : DT H p R S g) (ht : H t = some (.tup [.str a, .str b])) : DGet H p (.ref t) (g a b) := by
  obtain ⟨kvs, e, hv, _⟩ := h
  exact .inr ⟨kvs, pk a b, t, .inl e, rfl, ht, (hv a b).symm⟩
theorem dt_ds {t : Addr} (h : DT H p R S g) (ht : H t = some (.tup [.str a, .str b])) (l : g a b = some v) : DGet H p (.ref t) (some v) := by rw [← l]; exact dt_dg h ht
/-- the answers to a store: any heap where the dict alone is another -/
theorem dk_put {k : L2.St → Hp → Prop} {σ : L2.St} (h : DK H p R f) (hz : z ∈ R) (hR : R.length ≤ 1000) (q : ∀ kvs, DK (upd H p (.dK kvs)) p R (fun j => if j = z then some v else f j) → k σ (upd H p (.dK kvs))) :
    ∃ a H4, V.ref p = .ref a ∧ DPut H a (.str z) v H4 ∧ k σ H4 := by
  obtain ⟨kvs, e, hv, nd, hd⟩ := h
  have ok : KeyOk (domS R) (valV kvs) kvs := ⟨fun _ => rfl, nd, hd⟩
  have ok' := ok.put (k := .inr z) (mem_domS.mpr hz) v
  refine ⟨p, _, rfl, .inl ⟨kvs, .inr z, e, rfl, ?_, rfl⟩, q _ ⟨_, upd_same, fun j => ?_, ok'.nd, ok'.dom⟩⟩
  · have := ok.le
    rw [length_domS] at this
    exact Nat.lt_of_le_of_lt this (Nat.lt_of_le_of_lt hR (by decide))
  · rw [ok'.val, hv]
    show (if (Sum.inr j : Key) = Sum.inr z then some v else f j) = if j = z then some v else f j
    by_cases c : j = z
    · rw [if_pos c, if_pos (by rw [c])]
    · rw [if_neg c, if_neg (fun h => c (by injection h))]
theorem dt_put {t : Addr} {k : L2.St → Hp → Prop} {σ : L2.St} (h : DT H p R S g) (ht : H t = some (.tup [.str a, .str b])) (ha : a ∈ R) (hb : b ∈ S) (hR : R.length * S.length ≤ 1000)
    (q : ∀ kvs, DT (upd H p (.dT kvs)) p R S (fun i j => if i = a ∧ j = b then some v else g i j) → k σ (upd H p (.dT kvs))) :
    ∃ c H4, V.ref p = .ref c ∧ DPut H c (.ref t) v H4 ∧ k σ H4 := by
  obtain ⟨kvs, e, hv, nd, hd⟩ := h
  have ok : KeyOk (domT R S) (valV kvs) kvs := ⟨fun _ => rfl, nd, hd⟩
  have ok' := ok.put (k := pk a b) (mem_domT.mpr ⟨ha, hb⟩) v
  refine ⟨p, _, rfl, .inr ⟨kvs, pk a b, t, e, rfl, ht, ?_, rfl⟩, q _ ⟨_, upd_same, fun i j => ?_, ok'.nd, ok'.dom⟩⟩
  · have := ok.le
    rw [length_domT] at this
    exact Nat.lt_of_le_of_lt this (Nat.lt_of_le_of_lt hR (by decide))
  · rw [ok'.val, hv]
    show (if pk i j = pk a b then some v else g i j) = if i = a ∧ j = b then some v else g i j
    by_cases c : i = a ∧ j = b
    · rw [if_pos c, if_pos (pk_inj.mpr c)]
    · rw [if_neg c, if_neg (fun h => c (pk_inj.mp h))]
end
theorem a_dput {td ty tv : TE} {D : Ends} {σ : L2.St} {H : Hp} (h : tv σ H fun v H1 => td σ H1 fun x H2 => ty σ H2 fun y H3 => ∃ a H4, x = .ref a ∧ DPut H3 a y v H4 ∧ D.nx σ H4) : sDPut td ty tv D σ H := h
theorem a_newK {σ : L2.St} {H : Hp} {Q : VK} (h : ∀ p H', H p = none → Same H H' → H' p = some (.dK []) → Q (.ref p) H') : tDNewK σ H Q := nw h
theorem a_newT {σ : L2.St} {H : Hp} {Q : VK} (h : ∀ p H', H p = none → Same H H' → H' p = some (.dT []) → Q (.ref p) H') : tDNewT σ H Q := nw h

theorem nwN {H : Hp} {o : HO} {σ : L2.St} {QA : Addr → List V → Hp → Prop} (h : ∀ p H', H p = none → Same H H' → H' p = some o → QA p [] H') : ∀ p, H p = none → tNil σ (upd H p o) (QA p) := fun p hp => h p _ hp (same_new hp) upd_same
theorem nwC {H : Hp} {o : HO} {σ : L2.St} {ta : TE} {te : TA} {QA : Addr → List V → Hp → Prop} (h : ∀ p H', H p = none → Same H H' → H' p = some o → tCons ta te σ H' (QA p)) : ∀ p, H p = none → tCons ta te σ (upd H p o) (QA p) := fun p hp => h p _ hp (same_new hp) upd_same
theorem nw2 {H : Hp} {o : HO} {r : R2} {x : V} {Q : VK} (h : ∀ p H', H p = none → Same H H' → H' p = some o → r x (.ref p) H' Q) : ∀ p, H p = none → r x (.ref p) (upd H p o) Q := fun p hp => h p _ hp (same_new hp) upd_same
theorem a_disp {trs : List (TE × TE)} {σ : L2.St} {H : Hp} {Q : VK} (h : ∀ p H', H p = none → Same H H' → H' p = some (.dK []) → tPairs trs σ H' fun ps H2 => H2 p = some (.dK []) ∧ ∃ kvs : List (Key × V), ps = kvs.map (fun kv => (kV kv.1, kv.2)) ∧ kvs.length ≤ 15 ∧ Q (.ref p) (upd H2 p (.dK (mergeK [] kvs)))) : tDisp trs σ H Q :=
  fun p np => h p _ np (same_new np) upd_same
theorem a_prsC {tk tv : TE} {r : List (TE × TE)} {σ : L2.St} {H : Hp} {Q : List (V × V) → Hp → Prop} (h : tk σ H fun x H1 => tv σ H1 fun y H2 => tPairs r σ H2 fun ps H3 => Q ((x, y) :: ps) H3) : tPairs ((tk, tv) :: r) σ H Q := h
theorem a_prsN {σ : L2.St} {H : Hp} {Q : List (V × V) → Hp → Prop} (h : Q [] H) : tPairs [] σ H Q := h
theorem a_dget2 {td ty tx : TE} {σ : L2.St} {H : Hp} {Q : VK} (h : td σ H fun x H1 => ∃ a, x = .ref a ∧ IsD H1 a ∧ ty σ H1 fun y H2 => tx σ H2 fun z H3 => ∃ o, DGet H3 a y o ∧ Q (o.getD z) H3) : tDGet2 td ty tx σ H Q := h
/-! ### for, while -/
/-- what a for's walk asks -/
def ForW (J : It) (g : TG) (tb : TS) (D : Ends) (σ : L2.St) (H : Hp) : Prop := ∃ W : Nat → Nat → L2.St → Hp → Prop, (∃ m, W 0 m σ H) ∧ ∀ i m σ H, W i m σ H →
  (J.stop i H ∧ D.nx σ H) ∨ (J.go i H ∧ ∃ N : L2.St → Hp → Prop, (∀ σ' H', N σ' H' → ∃ m', m' < m ∧ W (i + 1) m' σ' H') ∧ ∀ x H', J.yld i H x H' → g x σ H' fun σ2 H2 => tb { D with nx := N, ct := N, bk := D.nx } σ2 H2)
theorem a_for {wi : TI} {g : TG} {tb : TS} {D : Ends} {σ : L2.St} {H : Hp} (h : wi σ H fun J H1 => ForW J g tb D σ H1) : tFor wi g tb D σ H := h
theorem for_go {J : It} {F : Hp} {n : Nat} {Y : Nat → V → Hp → Prop} {g : TG} {tb : TS} {D : Ends} {σ : L2.St} {H : Hp} (ok : ItOk J F n Y) (Pv : Nat → L2.St → Hp → Prop) (h0 : Pv 0 σ H) (fr : ∀ i σ H, Pv i σ H → Same F H)
    (st : ∀ i σ H H', Same H H' → Pv i σ H → Pv i σ H')
    (hs : ∀ i x σ H, i < n → Pv i σ H → Y i x H → g x σ H fun σ2 H2 => tb { D with nx := Pv (i + 1), ct := Pv (i + 1), bk := D.nx } σ2 H2) (hd : ∀ σ H, Pv n σ H → D.nx σ H) : ForW J g tb D σ H := by
  refine ⟨fun i m σ H => m = n - i ∧ i ≤ n ∧ Pv i σ H, ⟨n, by simp, Nat.zero_le _, h0⟩, ?_⟩
  rintro i m σ H ⟨rfl, hi, p⟩
  have s := fr i σ H p
  by_cases hlt : i < n
  · refine .inr ⟨ok.go i H s hlt, Pv (i + 1), fun σ' H' p' => ⟨n - (i + 1), by omega, rfl, hlt, p'⟩, fun x H' y => ?_⟩
    obtain ⟨s', y'⟩ := ok.yld i H x H' s hlt y
    exact hs i x σ H' hlt (st _ _ _ _ s' p) y'
  · have e : i = n := by omega
    subst e
    exact .inl ⟨ok.stop H s, hd σ H p⟩
/-- the measure fell -/
def Fell (Pv : Nat → L2.St → Hp → Prop) (m : Nat) (σ : L2.St) (H : Hp) : Prop := ∃ m', m' < m ∧ Pv m' σ H
theorem while_go {c : TT} {tb : TS} {D : Ends} {σ : L2.St} {H : Hp} (Pv : Nat → L2.St → Hp → Prop) (m : Nat) (h0 : Pv m σ H)
    (hs : ∀ m σ H, Pv m σ H → c σ H fun b H1 => if b = true then ∃ N : L2.St → Hp → Prop, (∀ σ' H', N σ' H' → Fell Pv m σ' H') ∧ tb { D with nx := N, ct := N, bk := D.nx } σ H1 else D.nx σ H1) : tWhile c tb D σ H :=
  ⟨Pv, ⟨m, h0⟩, hs⟩
theorem w_fell {Pv : Nat → L2.St → Hp → Prop} {m : Nat} {tb : TS} {D : Ends} {σ : L2.St} {H : Hp} (h : tb { D with nx := Fell Pv m, ct := Fell Pv m, bk := D.nx } σ H) :
    ∃ N : L2.St → Hp → Prop, (∀ σ' H', N σ' H' → Fell Pv m σ' H') ∧ tb { D with nx := N, ct := N, bk := D.nx } σ H := ⟨_, fun _ _ h => h, h⟩
/-! ### dicts that are walked -/
theorem it_keysT {d : Addr} {o : Obj} {kvs : List (List Key × V)} {F : Hp} (h : F d = some (.frz o (.dT kvs))) :
    ItOk (Itkt d o kvs) F kvs.length (fun i x H => ∃ (k : List Key) (v : V) (q : Addr), kvs[i]? = some (k, v) ∧ x = .ref q ∧ H q = some (.tup (k.map kV))) where
  go := fun i H s hi => ⟨s _ _ h, hi⟩
  stop := fun H s => ⟨s _ _ h, Nat.le_refl _⟩
  yld := fun i H x H' s hi ⟨e, y⟩ => by subst e; exact ⟨Same.refl H', y⟩
theorem i_keysT {g : TG} {tb : TS} {D : Ends} {σ : L2.St} {H : Hp} {d : Addr} {o : Obj} {kvs : List (List Key × V)} (h : H d = some (.frz o (.dT kvs))) (q : ForW (Itkt d o kvs) g tb D σ H) :
    ∃ d' o', V.ref d = .ref d' ∧ ((∃ kvs, H d' = some (.frz o' (.dK kvs)) ∧ ForW (Itk d' o' kvs) g tb D σ H) ∨ ∃ kvs, H d' = some (.frz o' (.dT kvs)) ∧ ForW (Itkt d' o' kvs) g tb D σ H) := ⟨d, o, rfl, .inr ⟨kvs, h, q⟩⟩
theorem w_keys {td : TE} {R : It → Hp → Prop} {σ : L2.St} {H : Hp} (h : td σ H fun x H1 => ∃ d o, x = .ref d ∧ ((∃ kvs, H1 d = some (.frz o (.dK kvs)) ∧ R (Itk d o kvs) H1) ∨ ∃ kvs, H1 d = some (.frz o (.dT kvs)) ∧ R (Itkt d o kvs) H1)) : iKeys td σ H R := h
theorem w_listT {td : TE} {R : It → Hp → Prop} {σ : L2.St} {H : Hp} (h : td σ H fun v H1 => ∃ d od ws, v = V.ref d ∧ H1 d = some (.frz od (.dT ws)) ∧ R (Itkt d od ws) H1) : iListT td σ H R := h
/-- the ends of a statement under the lock -/
def LkD (D : Ends) (d : Addr) (od : Obj) (u : HO) : Ends := ⟨fun σ' H' => H' d = some (.frz od u) ∧ D.nx σ' (upd H' d u), fun v H' => H' d = some (.frz od u) ∧ D.rt v (upd H' d u), fun σ' H' => H' d = some (.frz od u) ∧ D.bk σ' (upd H' d u), fun σ' H' => H' d = some (.frz od u) ∧ D.ct σ' (upd H' d u)⟩
theorem a_lock {t : TS} {D : Ends} {σ : L2.St} {H : Hp} {d : Addr} {u : HO} (h : H d = some u) (m : Mut (some u)) (q : ∀ od, t (LkD D d od u) σ (upd H d (.frz od u))) : tLock t D σ H := ⟨d, u, h, m, q⟩
theorem same_unlock {H H' : Hp} {d : Addr} {u x : HO} (s : Same (upd H d x) H') (h : H d = some u) : Same H (upd H' d u) := fun b o e => by
  by_cases c : b = d
  · subst c; rw [upd_same, ← e, h]
  · rw [upd_ne c]; exact s _ _ (by rw [upd_ne c]; exact e)
end QB
set_option Elab.async false
set_option linter.all false
set_option maxRecDepth 100000
set_option maxHeartbeats 4000000
namespace QB
open PySem PySem.Spec L2
open PyProof.Rows (envOfC)
open PySem.PyData (strOk)

/-! ### orders -/
theorem ltS_irr (a : Str) : ltS a a = false := by
  unfold ltS
  exact decide_eq_false (List.lt_irrefl _)
theorem ltS_trans {a b c : Str} (h : ltS a b = true) (g : ltS b c = true) : ltS a c = true := by
  unfold ltS at *
  exact decide_eq_true (List.lt_trans (of_decide_eq_true h) (of_decide_eq_true g))
theorem ltS_ne {a b : Str} (h : ltS a b = true) : a ≠ b := by
  rintro rfl
  rw [ltS_irr] at h; cases h
theorem ltS_asym {a b : Str} (h : ltS a b = true) (g : ltS b a = true) : False := by
  have := ltS_trans h g
  rw [ltS_irr] at this; cases this
theorem str_ext {a b : Str} (h : a.cps.toList = b.cps.toList) : a = b := by
  cases a; cases b
  simp only at h
  congr
  exact Array.toList_inj.mp h
theorem ltS_tri (a b : Str) : ltS a b = true ∨ a = b ∨ ltS b a = true := by
  by_cases h : ltS a b = true
  · exact .inl h
  · by_cases g : ltS b a = true
    · exact .inr (.inr g)
    · refine .inr (.inl (str_ext ?_))
      unfold ltS at h g
      have h := fun q => h (decide_eq_true q)
      have g := fun q => g (decide_eq_true q)
      exact List.le_antisymm (List.not_lt.mp g) (List.not_lt.mp h)
theorem ltP_irr (p : Str × Str) : ltP p p = false := by
  unfold ltP
  rw [if_pos rfl, ltS_irr]
theorem ltP_ne {a b : Str × Str} (h : ltP a b = true) : a ≠ b := by
  rintro rfl
  rw [ltP_irr] at h; cases h
theorem ltP_trans {p q r : Str × Str} (h : ltP p q = true) (g : ltP q r = true) : ltP p r = true := by
  obtain ⟨p1, p2⟩ := p
  obtain ⟨q1, q2⟩ := q
  obtain ⟨r1, r2⟩ := r
  unfold ltP at *
  simp only at *
  by_cases e : p1 = q1
  · subst e
    rw [if_pos rfl] at h
    by_cases e2 : p1 = r1
    · subst e2
      rw [if_pos rfl] at g ⊢
      exact ltS_trans h g
    · rw [if_neg e2] at g ⊢
      exact g
  · rw [if_neg e] at h
    by_cases e2 : q1 = r1
    · subst e2
      rw [if_neg e]
      exact h
    · rw [if_neg e2] at g
      have t := ltS_trans h g
      rw [if_neg (ltS_ne t)]
      exact t
theorem asc_cons {α : Type} {lt : α → α → Bool} {a : α} {l : List α} (h : AscL lt (a :: l)) : AscL lt l := fun i x y hx hy => h (i + 1) x y (by simpa using hx) (by simpa using hy)
theorem asc_pair {α : Type} {lt : α → α → Bool} (tr : ∀ a b c, lt a b = true → lt b c = true → lt a c = true) : ∀ {l : List α}, AscL lt l → l.Pairwise fun a b => lt a b = true
  | [], _ => .nil
  | [_], _ => List.pairwise_singleton _ _
  | a :: b :: l, h => by
    have ih := asc_pair tr (asc_cons h)
    have hab : lt a b = true := h 0 a b rfl rfl
    refine List.Pairwise.cons (fun c hc => ?_) ih
    rcases List.mem_cons.mp hc with rfl | hc
    · exact hab
    · exact tr _ _ _ hab (List.rel_of_pairwise_cons ih hc)
theorem pair_asc {α : Type} {lt : α → α → Bool} {l : List α} (h : l.Pairwise fun a b => lt a b = true) : AscL lt l := fun i x y hx hy => by
  have e1 := List.getElem?_eq_some_iff.mp hx
  have e2 := List.getElem?_eq_some_iff.mp hy
  obtain ⟨h1, rfl⟩ := e1
  obtain ⟨h2, rfl⟩ := e2
  exact List.pairwise_iff_getElem.mp h i (i + 1) h1 h2 (by omega)
theorem RoutersOk.pw {R : List Str} (h : RoutersOk R) : R.Pairwise fun a b => ltS a b = true := asc_pair (lt := ltS) (fun _ _ _ => ltS_trans) h.asc
theorem RoutersOk.nd {R : List Str} (h : RoutersOk R) : R.Nodup := h.pw.imp fun q => ltS_ne q
theorem LinksOk.pw {R : List Str} {ls : List Lnk} (h : LinksOk R ls) : (ls.map Lnk.ab).Pairwise fun a b => ltP a b = true := asc_pair (lt := ltP) (fun _ _ _ => ltP_trans) h.asc
theorem LinksOk.nd {R : List Str} {ls : List Lnk} (h : LinksOk R ls) : (ls.map Lnk.ab).Nodup := h.pw.imp fun q => ltP_ne q
theorem sub_links {R : List Str} {ls ms : List Lnk} (h : LinksOk R ls) (s : List.Sublist ms ls) : LinksOk R ms :=
  ⟨Nat.le_trans s.length_le h.most, fun l hl => h.each l (s.subset hl), pair_asc (h.pw.sublist (s.map _))⟩

/-! ### the lengths of a net -/
def lensOf (ls : List Lnk) : List ((Str × Str) × Int) := ls.flatMap fun l => [((l.a, l.b), l.th), ((l.b, l.a), l.bk)]
def lenV (ls : List Lnk) : List (List Key × V) := (lensOf ls).map fun e => (pk e.1.1 e.1.2, .int e.2)
def arcs (ls : List Lnk) : QT.Arcs Str := fun x y => (lensOf ls).lookup (x, y)
theorem lookup_mem {α β : Type} [BEq α] [LawfulBEq α] {k : α} {v : β} : ∀ {l : List (α × β)}, l.lookup k = some v → (k, v) ∈ l
  | [], h => by simp at h
  | (a, b) :: l, h => by
    rw [List.lookup_cons] at h
    by_cases e : (k == a) = true
    · obtain rfl := LawfulBEq.eq_of_beq e
      simp only [beq_self_eq_true, Option.some.injEq] at h
      rw [h]; exact List.mem_cons_self ..
    · have : (k == a) = false := by simpa using e
      rw [this] at h
      exact List.mem_cons_of_mem _ (lookup_mem h)
theorem mem_lookup {α β : Type} [BEq α] [LawfulBEq α] {k : α} {v : β} : ∀ {l : List (α × β)}, (l.map (·.1)).Nodup → (k, v) ∈ l → l.lookup k = some v
  | [], _, h => by simp at h
  | (a, b) :: l, nd, h => by
    rw [List.map_cons, List.nodup_cons] at nd
    rw [List.lookup_cons]
    rcases List.mem_cons.mp h with e | h'
    · cases e; simp
    · have : k ≠ a := by
        rintro rfl
        exact nd.1 (List.mem_map.mpr ⟨(k, v), h', rfl⟩)
      have : (k == a) = false := by simpa using this
      rw [this]
      exact mem_lookup nd.2 h'
theorem mem_lens {ls : List Lnk} {k : Str × Str} {v : Int} : (k, v) ∈ lensOf ls ↔ ∃ l ∈ ls, (k = (l.a, l.b) ∧ v = l.th) ∨ (k = (l.b, l.a) ∧ v = l.bk) := by
  unfold lensOf
  rw [List.mem_flatMap]
  constructor
  · rintro ⟨l, hl, h⟩
    refine ⟨l, hl, ?_⟩
    simp only [List.mem_cons, Prod.mk.injEq, List.not_mem_nil, or_false] at h
    exact h
  · rintro ⟨l, hl, h⟩
    refine ⟨l, hl, ?_⟩
    simp only [List.mem_cons, Prod.mk.injEq, List.not_mem_nil, or_false]
    exact h
theorem lens_nd {R : List Str} : ∀ {ls : List Lnk}, (∀ l ∈ ls, ltS l.a l.b = true) → (ls.map Lnk.ab).Nodup → ((lensOf ls).map (·.1)).Nodup
  | [], _, _ => .nil
  | l :: ls, h, nd => by
    rw [List.map_cons, List.nodup_cons] at nd
    have ih := lens_nd (R := R) (fun l hl => h l (List.mem_cons_of_mem _ hl)) nd.2
    have hl := h l (List.mem_cons_self ..)
    have e : (lensOf (l :: ls)).map (·.1) = (l.a, l.b) :: (l.b, l.a) :: (lensOf ls).map (·.1) := rfl
    have mm : ∀ k, k ∈ (lensOf ls).map (·.1) → ∃ m ∈ ls, k = (m.a, m.b) ∨ k = (m.b, m.a) := by
      intro k hk
      obtain ⟨⟨k', v⟩, hk', rfl⟩ := List.mem_map.mp hk
      obtain ⟨m, hm, q | q⟩ := mem_lens.mp hk'
      · exact ⟨m, hm, .inl q.1⟩
      · exact ⟨m, hm, .inr q.1⟩
    rw [e, List.nodup_cons, List.nodup_cons]
    refine ⟨?_, ?_, ih⟩
    · intro q
      rcases List.mem_cons.mp q with q | q
      · have : l.a = l.b := (Prod.mk.inj q).1
        exact ltS_ne hl this
      · obtain ⟨m, hm, q | q⟩ := mm _ q
        · refine nd.1 (List.mem_map.mpr ⟨m, hm, ?_⟩)
          show (m.a, m.b) = (l.a, l.b)
          exact q.symm
        · obtain ⟨q1, q2⟩ := Prod.mk.inj q
          have := h m (List.mem_cons_of_mem _ hm)
          rw [← q1, ← q2] at this
          exact ltS_asym hl this
    · intro q
      obtain ⟨m, hm, q | q⟩ := mm _ q
      · obtain ⟨q1, q2⟩ := Prod.mk.inj q
        have := h m (List.mem_cons_of_mem _ hm)
        rw [← q1, ← q2] at this
        exact ltS_asym hl this
      · refine nd.1 (List.mem_map.mpr ⟨m, hm, ?_⟩)
        obtain ⟨q1, q2⟩ := Prod.mk.inj q
        show (m.a, m.b) = (l.a, l.b)
        rw [q1, q2]
theorem LinksOk.lnd {R : List Str} {ls : List Lnk} (h : LinksOk R ls) : ((lensOf ls).map (·.1)).Nodup := lens_nd (R := R) (fun l hl => (h.each l hl).lt) h.nd
theorem arcs_iff {R : List Str} {ls : List Lnk} (h : LinksOk R ls) {x y : Str} {v : Int} : arcs ls x y = some v ↔ ∃ l ∈ ls, ((x, y) = (l.a, l.b) ∧ v = l.th) ∨ ((x, y) = (l.b, l.a) ∧ v = l.bk) := by
  rw [← mem_lens]
  exact ⟨lookup_mem, mem_lookup h.lnd⟩
theorem arcs_pos {R : List Str} {ls : List Lnk} (h : LinksOk R ls) : QT.Pos (arcs ls) := by
  intro x y v e
  obtain ⟨l, hl, ⟨_, rfl⟩ | ⟨_, rfl⟩⟩ := (arcs_iff h).mp e
  · exact (h.each l hl).th
  · exact (h.each l hl).bk
theorem arcs_in {R : List Str} {ls : List Lnk} (h : LinksOk R ls) {x y : Str} {v : Int} (e : arcs ls x y = some v) : x ∈ R ∧ y ∈ R := by
  obtain ⟨l, hl, ⟨q, _⟩ | ⟨q, _⟩⟩ := (arcs_iff h).mp e
  · obtain ⟨rfl, rfl⟩ := Prod.mk.inj q
    exact ⟨(h.each l hl).ra, (h.each l hl).rb⟩
  · obtain ⟨rfl, rfl⟩ := Prod.mk.inj q
    exact ⟨(h.each l hl).rb, (h.each l hl).ra⟩
theorem valV_lens (L : List ((Str × Str) × Int)) (a b : Str) : valV (L.map fun e => (pk e.1.1 e.1.2, V.int e.2)) (pk a b) = (L.lookup (a, b)).map V.int := by
  induction L with
  | nil => rfl
  | cons e L ih =>
    obtain ⟨⟨x, y⟩, v⟩ := e
    rw [List.map_cons, List.lookup_cons]
    by_cases c : (a, b) = (x, y)
    · obtain ⟨rfl, rfl⟩ := Prod.mk.inj c
      rw [valV_pos rfl]
      simp
    · have : ((a, b) == (x, y)) = false := by simpa using c
      rw [valV_neg (fun q => c (by
        obtain ⟨rfl, rfl⟩ := pk_inj.mp q
        rfl)), ih, this]
theorem val_lenV (ls : List Lnk) (a b : Str) : valV (lenV ls) (pk a b) = (arcs ls a b).map V.int := valV_lens _ a b
theorem lenV_snoc (ls : List Lnk) (l : Lnk) : lenV (ls ++ [l]) = lenV ls ++ [(pk l.a l.b, .int l.th)] ++ [(pk l.b l.a, .int l.bk)] := by
  unfold lenV lensOf
  rw [List.flatMap_append, List.map_append]
  simp
theorem length_lenV (ls : List Lnk) : (lenV ls).length = 2 * ls.length := by
  unfold lenV lensOf
  rw [List.length_map, List.length_flatMap]
  induction ls with
  | nil => rfl
  | cons a l ih => simp only [List.map_cons, List.sum_cons, List.length_cons, List.length_nil] at *; omega
/-- the net without a pair -/
def less (ls : List Lnk) (a b : Str) : List Lnk := ls.filter fun l => decide (l.ab ≠ (a, b))
theorem less_sub (ls : List Lnk) (a b : Str) : List.Sublist (less ls a b) ls := List.filter_sublist ..
theorem less_mem {ls : List Lnk} {a b : Str} {l : Lnk} : l ∈ less ls a b ↔ l ∈ ls ∧ l.ab ≠ (a, b) := by
  unfold less
  rw [List.mem_filter]
  simp
theorem less_snoc (xs : List Lnk) (y : Lnk) (a b : Str) : less (xs ++ [y]) a b = less xs a b ++ (if [y.a, y.b] = [a, b] then [] else [y]) := by
  unfold less
  rw [List.filter_append]
  congr 1
  have e : (y.ab = (a, b)) ↔ ([y.a, y.b] = [a, b]) := by
    unfold Lnk.ab
    simp
  by_cases c : [y.a, y.b] = [a, b]
  · rw [if_pos c]
    simp [e.mpr c]
  · rw [if_neg c]
    simp [mt e.mp c]
/-- the dict of lengths -/
def LenAt (H : Hp) (m : Addr) (ls : List Lnk) : Prop := H m = some (.dT (lenV ls))
theorem len_get {H : Hp} {m t : Addr} {ls : List Lnk} {a b : Str} {v : Int} {Q : VK} (h : Rd H m (.dT (lenV ls))) (ht : H t = some (.tup [.str a, .str b])) (l : arcs ls a b = some v) (q : Q (.int v) H) : ∃ c v, V.ref m = .ref c ∧ DGet H c (.ref t) (some v) ∧ Q v H :=
  ⟨m, .int v, rfl,   .inr ⟨lenV ls, pk a b, t, h, rfl, ht, by rw [val_lenV, l]; rfl⟩, q⟩
theorem len_in {H : Hp} {m t : Addr} {ls : List Lnk} {a b : Str} {S : Option V → Hp → Prop} (h : Rd H m (.dT (lenV ls))) (ht : H t = some (.tup [.str a, .str b])) (q : S ((arcs ls a b).map V.int) H) : ∃ c o, V.ref m = .ref c ∧ DGet H c (.ref t) o ∧ S o H :=
  ⟨m, _, rfl, .inr ⟨lenV ls, pk a b, t, h, rfl, ht, (val_lenV ls a b).symm⟩, q⟩
/-- the dict of distances -/
def DisAt (H : Hp) (p : Addr) (R : List Str) (f : Str → Option Int) : Prop := DK H p R fun z => (f z).map V.int
theorem DisAt.same {H H' : Hp} {p : Addr} {R : List Str} {f : Str → Option Int} (s : Same H H') (h : DisAt H p R f) : DisAt H' p R f := DK.same s h
theorem dis_in {H : Hp} {p : Addr} {R : List Str} {f : Str → Option Int} {z : Str} {S : Option V → Hp → Prop} (h : DisAt H p R f) (q : S ((f z).map V.int) H) : ∃ a o, V.ref p = .ref a ∧ DGet H a (.str z) o ∧ S o H := dk_in h q
theorem dis_get {H : Hp} {p : Addr} {R : List Str} {f : Str → Option Int} {z : Str} {i : Int} {Q : VK} (h : DisAt H p R f) (l : f z = some i) (q : Q (.int i) H) : ∃ a v, V.ref p = .ref a ∧ DGet H a (.str z) (some v) ∧ Q v H := dk_get h (by rw [l]; rfl) q
theorem dis_dg {H : Hp} {p : Addr} {R : List Str} {f : Str → Option Int} {z : Str} (h : DisAt H p R f) : DGet H p (.str z) ((f z).map V.int) := by
  obtain ⟨kvs, e, hv, _⟩ := h
  exact .inl ⟨kvs, .inr z, .inl e, rfl, (hv z).symm⟩
theorem dis_ds {H : Hp} {p : Addr} {R : List Str} {f : Str → Option Int} {z : Str} {i : Int} (h : DisAt H p R f) (e : f z = some i) : DGet H p (.str z) (some (.int i)) := by
  have := dis_dg (z := z) h
  rwa [e] at this
theorem len_dg {H : Hp} {m t : Addr} {ls : List Lnk} {a b : Str} (h : Rd H m (.dT (lenV ls))) (ht : H t = some (.tup [.str a, .str b])) : DGet H m (.ref t) ((arcs ls a b).map V.int) := .inr ⟨lenV ls, pk a b, t, h, rfl, ht, (val_lenV ls a b).symm⟩
theorem len_ds {H : Hp} {m t : Addr} {ls : List Lnk} {a b : Str} {v : Int} (h : Rd H m (.dT (lenV ls))) (ht : H t = some (.tup [.str a, .str b])) (e : arcs ls a b = some v) : DGet H m (.ref t) (some (.int v)) := by
  have := len_dg h ht
  rwa [e] at this
/-- the net with a link of that pair, one more -/
structure WithL (ls ms : List Lnk) (l : Lnk) : Prop where
  mem : ∀ k, k ∈ ms ↔ k = l ∨ k ∈ less ls l.a l.b
theorem arcs_congr {R : List Str} {ls ms : List Lnk} (h : LinksOk R ls) (g : LinksOk R ms) (e : ∀ l, l ∈ ls ↔ l ∈ ms) : arcs ls = arcs ms := by
  funext x y
  refine Option.ext fun v => ?_
  rw [arcs_iff h, arcs_iff g]
  constructor
  · rintro ⟨l, hl, q⟩; exact ⟨l, (e l).mp hl, q⟩
  · rintro ⟨l, hl, q⟩; exact ⟨l, (e l).mpr hl, q⟩
/-- the link that grows -/
def lkOf (ls : List Lnk) (l : Lnk) : QT.Lk Str := ⟨arcs (less ls l.a l.b), l.a, l.b, l.th, l.bk⟩
theorem lk_ok {R : List Str} {ls : List Lnk} {l : Lnk} (h : LinksOk R ls) (hl : l ∈ ls) : (lkOf ls l).Ok := by
  have hs := sub_links h (less_sub ls l.a l.b)
  have lt := (h.each l hl).lt
  refine ⟨arcs_pos hs, ltS_ne lt, ?_, ?_⟩
  · show arcs (less ls l.a l.b) l.a l.b = none
    refine Option.eq_none_iff_forall_ne_some.mpr fun v e => ?_
    obtain ⟨m, hm, ⟨q, _⟩ | ⟨q, _⟩⟩ := (arcs_iff hs).mp e
    · exact (less_mem.mp hm).2 q.symm
    · obtain ⟨q1, q2⟩ := Prod.mk.inj q
      have := (h.each m (less_mem.mp hm).1).lt
      rw [← q1, ← q2] at this
      exact ltS_asym lt this
  · show arcs (less ls l.a l.b) l.b l.a = none
    refine Option.eq_none_iff_forall_ne_some.mpr fun v e => ?_
    obtain ⟨m, hm, ⟨q, _⟩ | ⟨q, _⟩⟩ := (arcs_iff hs).mp e
    · obtain ⟨q1, q2⟩ := Prod.mk.inj q
      have := (h.each m (less_mem.mp hm).1).lt
      rw [← q1, ← q2] at this
      exact ltS_asym lt this
    · obtain ⟨q1, q2⟩ := Prod.mk.inj q
      refine (less_mem.mp hm).2 ?_
      show (m.a, m.b) = (l.a, l.b)
      rw [q1, q2]
theorem arcs_at {R : List Str} {ls ms : List Lnk} {l : Lnk} {t : Int} (h : LinksOk R ls) (hl : l ∈ ls) (g : LinksOk R ms) (w : WithL ls ms ⟨l.a, l.b, l.th + t, l.bk + t⟩) : arcs ms = (lkOf ls l).at (some t) := by
  funext x y
  have hs := sub_links h (less_sub ls l.a l.b)
  have ne := ltS_ne (h.each l hl).lt
  have key : ∀ v, arcs ms x y = some v ↔ (((x, y) = (l.a, l.b) ∧ v = l.th + t) ∨ ((x, y) = (l.b, l.a) ∧ v = l.bk + t)) ∨ arcs (less ls l.a l.b) x y = some v := by
    intro v
    rw [arcs_iff g, arcs_iff hs]
    constructor
    · rintro ⟨m, hm, q⟩
      rcases (w.mem m).mp hm with rfl | hm
      · exact .inl q
      · exact .inr ⟨m, hm, q⟩
    · rintro (q | ⟨m, hm, q⟩)
      · exact ⟨_, (w.mem _).mpr (.inl rfl), q⟩
      · exact ⟨m, (w.mem m).mpr (.inr hm), q⟩
  have ok := lk_ok h hl
  show arcs ms x y = if x = l.a ∧ y = l.b then some (l.th + t) else if x = l.b ∧ y = l.a then some (l.bk + t) else arcs (less ls l.a l.b) x y
  by_cases c1 : x = l.a ∧ y = l.b
  · rw [if_pos c1]
    obtain ⟨rfl, rfl⟩ := c1
    exact (key _).mpr (.inl (.inl ⟨rfl, rfl⟩))
  · rw [if_neg c1]
    by_cases c2 : x = l.b ∧ y = l.a
    · rw [if_pos c2]
      obtain ⟨rfl, rfl⟩ := c2
      exact (key _).mpr (.inl (.inr ⟨rfl, rfl⟩))
    · rw [if_neg c2]
      refine Option.ext fun v => ?_
      rw [key]
      constructor
      · rintro ((⟨q, _⟩ | ⟨q, _⟩) | q)
        · exact absurd (Prod.mk.inj q) c1
        · exact absurd (Prod.mk.inj q) c2
        · exact q
      · exact .inr
end QB
set_option Elab.async false
set_option linter.all false
set_option maxRecDepth 100000
set_option maxHeartbeats 4000000
namespace QB
open PySem PySem.Spec L2
open PySem.W (AlikeAll max_list_default maxD_ints)
open StX (tStar pa_star)
open PyProof.Rows (envOfC)
open PySem.PyData (strOk)
theorem ki_star {X : Cx} {K : PySem.W.Frag} {e : Expr} {te : TE} {p : Pos} (he : PE X e te) (hK : X.K = K := by rfl) (hs : starEach [.Starred e p] X.env = (true, eval e X.env) :: starEach [] X.env := by rfl) : PA X [.Starred e p] (tStar K te tNil) := by
  subst hK
  exact pa_star he pa_nil hs
theorem a_star {K : PySem.W.Frag} {te : TE} {t : TA} {σ : L2.St} {H : Hp} {QA : List V → Hp → Prop} (h : te σ H fun y H1 => ∃ a xs, y = V.ref a ∧ (SqT K H1 a xs ∨ SqL K H1 a xs) ∧ t σ H1 fun ys H2 => QA (xs ++ ys) H2) : tStar K te t σ H QA := h
/-- max(xs, default=d), ints -/
def rMaxDf (K : PySem.W.Frag) : List V → List V → Hp → VK → Prop := fun vs zs H Q => ∃ (a : Addr) (ns : List Int) (d : V), vs = [V.ref a] ∧ zs = [d] ∧ SqL K H a (ns.map V.int) ∧ (ns = [] → Q d H) ∧ (ns ≠ [] → ∀ m, m ∈ ns → (∀ y, y ∈ ns → y ≤ m) → Q (.int m) H)
theorem dp_ints {K : PySem.W.Frag} {H : Hp} : ∀ ns : List Int, DpAll K H (ns.map V.int) (ns.map PyData.int)
  | [] => .nil
  | n :: ns => .cons (.int n) (dp_ints ns)
theorem alike_ints (ns : List Int) : AlikeAll (ns.map PyData.int) := by
  refine ⟨fun x hx y hy => ?_, fun x hx => ?_⟩
  · obtain ⟨i, _, rfl⟩ := List.mem_map.mp hx
    obtain ⟨j, _, rfl⟩ := List.mem_map.mp hy
    rfl
  · obtain ⟨i, _, rfl⟩ := List.mem_map.mp hx
    exact fun h => nomatch h
theorem depth_ints : ∀ ns : List Int, PyData.depthAll (ns.map PyData.int) ≤ 1
  | [] => by simp [PyData.depthAll]
  | n :: ns => by
    have := depth_ints ns
    simp only [List.map_cons, PyData.depthAll, PyData.depth]
    omega
theorem foldl_max : ∀ (ns : List Int) (n : Int), ns.foldl max n ∈ n :: ns ∧ ∀ y ∈ n :: ns, y ≤ ns.foldl max n
  | [], n => ⟨by simp, fun y hy => by simp at hy; simp [hy]⟩
  | k :: ns, n => by
    obtain ⟨h1, h2⟩ := foldl_max ns (max n k)
    refine ⟨?_, fun y hy => ?_⟩
    · rcases List.mem_cons.mp h1 with h | h
      · rw [List.foldl_cons, h]
        rcases Int.le_total n k with q | q
        · rw [Int.max_eq_right q]; simp
        · rw [Int.max_eq_left q]; simp
      · rw [List.foldl_cons]; simp [h]
    · rw [List.foldl_cons]
      have hm := h2 (max n k) (by simp)
      rcases List.mem_cons.mp hy with rfl | hy
      · exact Int.le_trans (Int.le_max_left _ _) hm
      · rcases List.mem_cons.mp hy with rfl | hy
        · exact Int.le_trans (Int.le_max_right _ _) hm
        · exact h2 y (by simp [hy])
theorem cr_maxDf {X : Cx} (hc : X.calm = true) (hu : X.A.units + 8 < cLine) : CallRK X (.builtin "max") ["default"] (rMaxDf X.K) := by
  intro pins s σ H vs zs us ws Q I r rz h
  obtain ⟨a, ns, d, rfl, rfl, hs, q0, q1⟩ := h
  obtain ⟨its, rv, hl, hz⟩ := I.list hs
  rw [Vals.ref1 r]
  obtain ⟨dv, rfl, rd⟩ := rz.one
  obtain ⟨as, rr⟩ := Dp.readsAll I _ _ _ (dp_ints ns) rv
  show wpAny _ _ (call (.builtin "max") [.ref a] [(Str.ofString "default", dv)]) _ _ _
  refine max_list_default (vs := its.toArray) (I.ok.hd hc) hl.isList rr (alike_ints ns) (by have := depth_ints ns; omega) (fun e h' tk k => ?_) fun y ys i v h' tk bs e hi hr k => ?_
  · exact ⟨d, H, I.kept (t' := tk) k, rd, q0 (List.map_eq_nil_iff.mp e)⟩
  · cases ns with
    | nil => cases e
    | cons n ns =>
      cases e
      rw [maxD_ints] at hr
      cases hr with
      | int _ t =>
        obtain ⟨h1, h2⟩ := foldl_max ns n
        exact ⟨.int _, H, I.kept (t' := tk) k, ⟨_, rfl⟩, q1 (fun h => nomatch h) _ h1 h2⟩
theorem ki_maxDf {X : Cx} {K : PySem.W.Frag} (hc : X.calm = true) (hu : X.A.units + 8 < cLine) (hK : X.K = K := by rfl) : CallRK X (.builtin "max") ["default"] (rMaxDf K) := by
  subst hK
  exact cr_maxDf hc hu
theorem hu8 {n : Nat} {A : Around} (hr : Room n A) : A.units + 8 < cLine := by have := hu65 hr; omega
theorem a_cKw {r : List V → List V → Hp → VK → Prop} {t tk : TA} {σ : L2.St} {H : Hp} {Q : VK} (h : t σ H fun vs H1 => tk σ H1 fun zs H2 => r vs zs H2 Q) : tCKw r t tk σ H Q := h
theorem a_rU {f : Int → V} {i : Int} {H : Hp} {Q : VK} (q : Q (f i) H) : rU f (.int i) H Q := ⟨i, rfl, q⟩
theorem a_par {i j : Nat} {ta : TA} {D : Ends} {σ : L2.St} {H : Hp} (h : ta σ H fun vs H1 => ∃ v w, vs = [v, w] ∧ D.nx ((σ.set i (some v)).set j (some w)) H1) : tPar i j ta D σ H := h
theorem a_par3 {i j l : Nat} {ta : TA} {D : Ends} {σ : L2.St} {H : Hp} (h : ta σ H fun vs H1 => ∃ u v w, vs = [u, v, w] ∧ D.nx (((σ.set i (some u)).set j (some v)).set l (some w)) H1) : tPar3 i j l ta D σ H := h
/-- list * n -/
theorem a_rep {H : Hp} {Q : VK} {a : Addr} {z : Str} {b : Bool} (h : H a = some (.lst [.str z])) (q : ∀ p H' (ys : List Str), Same H H' → H' p = some (.lst (ys.map V.str)) → ys.length ≤ 1 → Q (.ref p) H') : rRep (.ref a) (.int (if b then 1 else 0)) H Q := by
  cases b with
  | false => exact ⟨a, 0, _, rfl, rfl, h, by decide, by decide, (by show 0 ≤ sizeLine; decide), nw fun p H' _ s e => q p H' [] s e (by simp)⟩
  | true => exact ⟨a, 1, _, rfl, rfl, h, by decide, by decide, (by show 1 ≤ sizeLine; decide), nw fun p H' _ s e => q p H' [z] s e (by simp)⟩
theorem a_cat {H : Hp} {Q : VK} {a b : Addr} {xs ys : List V} (ha : H a = some (.lst xs)) (hb : H b = some (.lst ys)) (l : xs.length + ys.length ≤ 1000) (q : ∀ p H', H p = none → Same H H' → H' p = some (.lst (xs ++ ys)) → Q (.ref p) H') : rCat (.ref a) (.ref b) H Q :=
  ⟨a, b, xs, ys, rfl, rfl, ha, hb, Nat.le_trans l (by decide), nw q⟩
/-- all of bools -/
theorem a_allB {K : PySem.W.Frag} {H : Hp} {Q : VK} {a : Addr} {bs : List Bool} (h : H a = some (.lst (bs.map V.bl))) (k : Q (.bl (bs.all id)) H) : rAll K [.ref a] H Q := ⟨a, bs, rfl, SqL.of h, k⟩
theorem a_catA {K : PySem.W.Frag} {H : Hp} {Q : VK} {a b : Addr} {xs ys : List V} (ha : H a = some (.tup xs)) (hb : H b = some (.tup ys)) (l : xs.length + ys.length ≤ 1000)
    (q : ∀ p H', Same H H' → H' p = some (.tup (xs ++ ys)) → Q (.ref p) H') : rCatA K (.ref a) (.ref b) H Q := by
  refine ⟨a, b, xs, ys, rfl, rfl, SqT.of ha, SqT.of hb, Nat.le_trans l (by decide), fun e => ?_, fun _ e => ?_, fun _ _ => nw fun p H' _ s e => q p H' s e⟩
  · subst e
    exact q b H (Same.refl H) hb
  · subst e
    exact q a H (Same.refl H) (by rw [List.append_nil]; exact ha)
end QB
set_option linter.all false
namespace QT
section
variable {α : Type} [DecidableEq α]
/-- ranks so far, and who is left -/
structure RkI (R : List α) (L : α → List α) (f : α → Option Int) (left : List α) : Prop where
  sub : ∀ x ∈ left, x ∈ R
  nd : left.Nodup
  cov : ∀ x ∈ R, x ∈ left ∨ ∃ k, f x = some k
  dis : ∀ x ∈ left, f x = none
  fall : ∀ x k, f x = some k → x ∈ R ∧ 0 ≤ k ∧ ∀ n ∈ L x, ∃ j, f n = some j ∧ j < k
def ready (L : α → List α) (f : α → Option Int) (left : List α) : List α := left.filter fun x => (L x).all fun n => (f n).isSome
/-- within the loop over the ready ones -/
structure RkJ (L : α → List α) (f : α → Option Int) (seen : List α) (g : α → Option Int) : Prop where
  new : ∀ x ∈ seen, ∃ v, g x = some v ∧ 0 ≤ v ∧ ∀ n ∈ L x, ∃ i, f n = some i ∧ i < v
  old : ∀ x, x ∉ seen → g x = f x
variable {R left : List α} {L : α → List α} {f g : α → Option Int}
theorem RkI.start (nd : R.Nodup) {l : List α} (hl : l.Nodup) (e : ∀ x, x ∈ l ↔ x ∈ R) : RkI R L (fun _ => none) l :=
  ⟨fun x h => (e x).mp h, hl, fun x h => .inl ((e x).mpr h), fun _ _ => rfl, fun _ _ h => nomatch h⟩
theorem mem_ready {x : α} : x ∈ ready L f left ↔ x ∈ left ∧ ∀ n ∈ L x, (f n).isSome = true := by
  unfold ready
  rw [List.mem_filter, List.all_eq_true]
theorem RkJ.nil : RkJ L f [] f := ⟨(fun _ h => nomatch h), fun _ _ => rfl⟩
theorem RkJ.put {seen : List α} {x : α} {v : Int} (h : RkJ L f seen g) (v0 : 0 ≤ v) (hv : ∀ n ∈ L x, ∃ i, f n = some i ∧ i < v) : RkJ L f (seen ++ [x]) (fun z => if z = x then some v else g z) := by
  refine ⟨fun y hy => ?_, fun y hy => ?_⟩
  · by_cases c : y = x
    · subst c
      exact ⟨v, if_pos rfl, v0, hv⟩
    · rcases List.mem_append.mp hy with hy | hy
      · obtain ⟨v', h1, h2⟩ := h.new y hy
        exact ⟨v', by show (if y = x then _ else _) = _; rw [if_neg c]; exact h1, h2⟩
      · exact absurd (List.mem_singleton.mp hy) c
  · have c : y ≠ x := fun e => hy (by rw [e]; simp)
    show (if y = x then _ else _) = _
    rw [if_neg c]
    exact h.old y fun h' => hy (List.mem_append_left _ h')
theorem RkI.step (b : RkI R L f left) (j : RkJ L f (ready L f left) g) : RkI R L g (left.filter fun x => !decide (x ∈ ready L f left)) := by
  have mm : ∀ x, x ∈ left.filter (fun x => !decide (x ∈ ready L f left)) ↔ x ∈ left ∧ x ∉ ready L f left := fun x => by
    rw [List.mem_filter]; simp
  refine ⟨fun x h => b.sub x ((mm x).mp h).1, b.nd.filter _, fun x hx => ?_, fun x h => ?_, fun x k h => ?_⟩
  · by_cases c : x ∈ ready L f left
    · obtain ⟨v, h1, _⟩ := j.new x c
      exact .inr ⟨v, h1⟩
    · rcases b.cov x hx with h | ⟨k, h⟩
      · exact .inl ((mm x).mpr ⟨h, c⟩)
      · exact .inr ⟨k, by rw [j.old x c]; exact h⟩
  · rw [j.old x ((mm x).mp h).2]
    exact b.dis x ((mm x).mp h).1
  · have keep : ∀ n i, f n = some i → g n = some i := fun n i hn => by
      rw [j.old n fun hr => by
        have := b.dis n (mem_ready.mp hr).1
        rw [hn] at this; cases this]
      exact hn
    by_cases c : x ∈ ready L f left
    · obtain ⟨v, h1, h2, h3⟩ := j.new x c
      rw [h] at h1; cases h1
      refine ⟨b.sub x (mem_ready.mp c).1, h2, fun n hn => ?_⟩
      obtain ⟨i, e, l⟩ := h3 n hn
      exact ⟨i, keep n i e, l⟩
    · rw [j.old x c] at h
      obtain ⟨h1, h2, h3⟩ := b.fall x k h
      refine ⟨h1, h2, fun n hn => ?_⟩
      obtain ⟨i, e, l⟩ := h3 n hn
      exact ⟨i, keep n i e, l⟩
/-- at the end -/
structure RkE (R : List α) (L : α → List α) (f : α → Option Int) (left : List α) : Prop where
  sub : ∀ x ∈ left, x ∈ R
  nd : left.Nodup
  all : left = [] → ∀ x ∈ R, ∃ k, f x = some k
  succ : ∀ x ∈ left, ∃ n ∈ L x, n ∈ left
  iff : left = [] ↔ ∃ rank : α → Nat, ∀ x ∈ R, ∀ n ∈ L x, rank n < rank x
theorem RkI.fin (b : RkI R L f left) (hL : ∀ x ∈ R, ∀ n ∈ L x, n ∈ R) (h : ready L f left = []) : RkE R L f left := by
  have succ : ∀ x ∈ left, ∃ n ∈ L x, n ∈ left := by
    intro x hx
    have hx' := b.sub x hx
    refine Classical.byContradiction fun q => ?_
    have : x ∈ ready L f left := mem_ready.mpr ⟨hx, fun n hn => by
      rcases b.cov n (hL x hx' n hn) with h1 | ⟨k, h1⟩
      · exact absurd ⟨n, hn, h1⟩ q
      · rw [h1]; rfl⟩
    rw [h] at this; cases this
  refine ⟨b.sub, b.nd, fun e x hx => ?_, succ, ⟨fun e => ?_, fun ⟨rank, hr⟩ => ?_⟩⟩
  · rcases b.cov x hx with h1 | h1
    · rw [e] at h1; cases h1
    · exact h1
  · refine ⟨fun x => ((f x).getD 0).toNat, fun x hx n hn => ?_⟩
    rcases b.cov x hx with h1 | ⟨k, h1⟩
    · rw [e] at h1; cases h1
    · obtain ⟨_, h2, h3⟩ := b.fall x k h1
      obtain ⟨i, e1, e2⟩ := h3 n hn
      obtain ⟨_, h4, _⟩ := b.fall n i e1
      show ((f n).getD 0).toNat < ((f x).getD 0).toNat
      rw [h1, e1]
      simp only [Option.getD_some]
      omega
  · cases e : left with
    | nil => rfl
    | cons x0 rest =>
      exfalso
      have no : ∀ m x, x ∈ left → rank x = m → False := by
        intro m
        induction m using Nat.strongRecOn with
        | _ m ih =>
          intro x hx hm
          obtain ⟨n, hn, hn'⟩ := succ x hx
          exact ih (rank n) (by rw [← hm]; exact hr x (b.sub x hx) n hn) n hn' rfl
      exact no _ x0 (by rw [e]; exact List.mem_cons_self ..) rfl
end
end QT
set_option Elab.async false
set_option linter.all false
set_option maxRecDepth 100000
set_option maxHeartbeats 4000000
namespace QS
open PySem PySem.Spec PyProof.Rows L2

/-! ### rows picked by an order -/
theorem pick_all {α : Type} (l : List α) : ∀ n, n ≤ l.length → (List.range n).filterMap (fun i => l[i]?) = l.take n
  | 0, _ => by simp
  | n + 1, h => by
    rw [List.range_succ, List.filterMap_append, pick_all l n (by omega), List.take_succ, List.getElem?_eq_getElem (show n < l.length by omega)]
    rw [List.filterMap_cons_some (List.getElem?_eq_getElem (show n < l.length by omega))] <;> rfl
theorem pick_fst {α β : Type} (l : List (α × β)) (d : α) : ∀ is : List Nat, (∀ i ∈ is, i < l.length) → (is.filterMap fun i => l[i]?).map (·.1) = is.map fun i => (l.map (·.1)).getD i d
  | [], _ => rfl
  | i :: is, h => by
    have hi := h i (by simp)
    rw [List.filterMap_cons_some (List.getElem?_eq_getElem hi), List.map_cons, List.map_cons, pick_fst l d is fun j hj => h j (by simp [hj])]
    congr 1
    simp [List.getD_eq_getElem?_getD, hi]

variable {P : Program} {w : World} {A : Around} {E : Value → Shared → Prop} {s : Shared} {a : Addr}
abbrev TKey (P : Program) (w : World) (h : Heap) (k : List Key) (c : Addr) : Prop := IsTupleKey (mixKind P w) h k c
abbrev hk (P : Program) (w : World) (k : List Key) : Int := tupleKeyHash (mixKind P w) k

/-! ### what is asked of a tuple of ints and texts -/
theorem item_flat {k : List Key} {vs : List Value} (x : ItemsAre (mixKind P w) k vs) : ∀ v ∈ vs, (∃ i t, v = Value.int i t) ∨ ∃ z t, v = Value.str z t := by
  induction x with
  | nil => exact fun v hv => nomatch hv
  | @cons k0 u ks us q _ ih =>
    intro v hv
    rcases List.mem_cons.mp hv with rfl | hv
    · rcases keyIs_shape (show keyIs k0 v = true from q) with ⟨i, t, e, _⟩ | ⟨z, t, _, e⟩
      · first
          | exact .inl ⟨i, t, by assumption⟩
          | exact .inl ⟨_, _, (by assumption : v = Value.int _ _)⟩
      · exact .inr ⟨z, t, e⟩
    · exact ih v hv

theorem noStatement {k : List Key} {c : Addr} {Q : Bool → Shared → Prop} (x : TKey P w s.heap k c) (q : Q false s) : wpAny (model P w) A (ofAClassStatement 8 (.ref c)) Q E s := by
  have ty := x.typeIs
  obtain ⟨ob, its, ep, at1, -, at2, fl⟩ := x
  unfold ofAClassStatement
  refine wpAny_bind (wpAny_typeOf ty ?_)
  have tt : (("tuple" : String) == "tuple") = true := by decide
  simp only [tt, if_true, Bool.not_true, Bool.false_eq_true, if_false]
  try refine wpAny_bind (wpAny_pure ?_)
  try simp only [Bool.not_true, Bool.false_eq_true, if_false]
  refine wpAny_bind (wpAny_seqItems at1 at2 ?_)
  dsimp only
  refine wpAny_bind ?_
  rw [← Array.forIn_toList]
  refine wpAny_forIn_list _ (fun left r z => r.1 = none ∧ z = s ∧ ∀ v ∈ left, (∃ i t, v = Value.int i t) ∨ ∃ y t, v = Value.str y t) _ ?_ ?_ _ _ ⟨rfl, rfl, item_flat fl⟩
  · rintro v left r z ⟨-, rfl, all⟩
    have e : ofAClassStatement 7 v = pure false := by
      rcases all v (by simp) with ⟨i, t, rfl⟩ | ⟨y, t, rfl⟩ <;> rfl
    rw [e]
    refine wpAny_bind (wpAny_pure ?_)
    simp only [Bool.false_eq_true, if_false]
    exact wpAny_pure ⟨rfl, rfl, fun u hu => all u (by simp [hu])⟩
  · rintro ⟨r1, r2⟩ z ⟨e, rfl, -⟩
    have e : r1 = none := e
    subst e
    exact wpAny_pure q
theorem anyValue {k : List Key} {c : Addr} {Q : Bool → Shared → Prop} (x : TKey P w s.heap k c) (q : ∀ b, Q b s) : wpAny (model P w) A (hashByValue 8 (.ref c)) Q E s := by
  have ty := x.typeIs
  obtain ⟨ob, its, ep, at1, -, at2, fl⟩ := x
  unfold hashByValue
  refine wpAny_bind (wpAny_specialOf ty F.slot_tuple_hash.lookup ?_)
  dsimp only
  refine wpAny_bind (wpAny_seqItems at1 at2 ?_)
  refine wpAny_bind ?_
  show wpAny _ _ (forIn its _ _) _ _ s
  rw [← Array.forIn_toList]
  refine wpAny_forIn_list _ (fun left r z => r.1 = none ∧ z = s ∧ ∀ v ∈ left, (∃ i t, v = Value.int i t) ∨ ∃ y t, v = Value.str y t) _ ?_ ?_ _ _ ⟨rfl, rfl, item_flat fl⟩
  · rintro v left r z ⟨-, rfl, all⟩
    rcases all v (by simp) with ⟨i, t, rfl⟩ | ⟨y, t, rfl⟩
    · have e : hashByValue 7 (.int i t) = pure true := rfl
      rw [e]
      refine wpAny_bind (wpAny_pure ?_)
      simp only [Bool.not_true, Bool.false_eq_true, if_false]
      exact wpAny_pure ⟨rfl, rfl, fun u hu => all u (by simp [hu])⟩
    · have e : hashByValue 7 (.str y t) = pure false := rfl
      rw [e]
      refine wpAny_bind (wpAny_pure ?_)
      simp only [Bool.not_false, if_true]
      refine wpAny_pure ?_
      exact wpAny_pure (q false)
  · rintro ⟨r1, r2⟩ z ⟨e, rfl, -⟩
    have e : r1 = none := e
    subst e
    exact wpAny_pure (q true)
theorem unseen {k : List Key} {c : Addr} {Q : Bool → Shared → Prop} (x : TKey P w s.heap k c) {ys : List Value} (hy : ∀ y ∈ ys, ∃ k' c', y = Value.ref c' ∧ TKey P w s.heap k' c') (q : Q false s) : wpAny (model P w) A (searchCouldBeSeen (.ref c) ys) Q E s := by
  unfold searchCouldBeSeen
  refine wpAny_bind ?_
  refine wpAny_forIn_list _ (fun left r z => r.1 = none ∧ z = s ∧ ∀ y ∈ left, ∃ k' c', y = Value.ref c' ∧ TKey P w s.heap k' c') _ ?_ ?_ _ _ ⟨rfl, rfl, hy⟩
  · rintro v left r z ⟨-, rfl, all⟩
    obtain ⟨k', c', rfl, x'⟩ := all v (by simp)
    have tail : ∀ y ∈ left, ∃ k' c', y = Value.ref c' ∧ TKey P w z.heap k' c' := fun u hu => all u (by simp [hu])
    dsimp only
    by_cases hv : (c == c' || (carriedByValue (.ref c) && carriedByValue (.ref c'))) = true
    · exact wp_if_pos hv (wpAny_pure ⟨rfl, rfl, tail⟩)
    · refine wp_if_neg hv ?_
      refine wpAny_bind (wpAny_eqIsQuiet_tuple x ?_)
      simp only [Bool.not_true, Bool.false_eq_true, if_false]
      refine wpAny_bind (wpAny_eqIsQuiet_tuple x' ?_)
      simp only [Bool.not_true, Bool.false_eq_true, if_false]
      refine wpAny_bind (noStatement x ?_)
      simp only [Bool.false_eq_true, if_false]
      refine wpAny_bind (noStatement x' ?_)
      simp only [Bool.false_eq_true, if_false]
      exact wpAny_pure ⟨rfl, rfl, tail⟩
  · rintro ⟨r1, r2⟩ z ⟨e, rfl, -⟩
    have e : r1 = none := e
    subst e
    exact wpAny_pure q

/-! ### a set of tuples, none twice -/
structure Tab (P : Program) (w : World) (h : Heap) (a : Addr) (es : Array (Int × Value)) (t : SetTable) : Prop where
  at_ : ∃ o ep, h.get? a = some o ∧ o.ExactSet ∧ o.data = .set es ep t
  tab : TabOk t (es.toList.map (·.1))
  led : w.params.followText "set-order" = true ∨ t.led = true
  room : es.size * 5 < t.mask * 3
  few : es.size < 64
  ents : ∀ e ∈ es.toList, ∃ k c, e = (hk P w k, .ref c) ∧ TKey P w h k c
variable {es : Array (Int × Value)} {t : SetTable}
theorem Tab.sz (R : Tab P w s.heap a es t) : t.place.size = es.size := by
  have := R.tab.sz
  simpa using this
theorem fits_of {es : Array (Int × Value)} {t : SetTable} (h1 : t.place.size = es.size) (h2 : t.dummies = #[]) (h3 : es.size ≤ t.mask) : t.fits es.size = true := by
  unfold SetTable.fits SetTable.fill
  rw [h2, Bool.and_eq_true, beq_iff_eq, decide_eq_true_eq]
  refine ⟨h1, ?_⟩
  show t.place.size + 0 ≤ t.mask
  omega
theorem Tab.fits (R : Tab P w s.heap a es t) : t.fits es.size = true := fits_of R.sz R.tab.dm (by have := R.room; omega)
theorem Tab.odd (R : Tab P w s.heap a es t) : ¬ t.gaveWay = true := by
  unfold SetTable.gaveWay
  rw [mask_odd R.tab.mok]
  decide
theorem dummy_none (m : Nat) : ∀ (n : Nat) (p : SetTable.Probe), p.dummy = none → (nth m p n).dummy = none
  | 0, _, h => h
  | n + 1, p, h => dummy_none m n (adv m p) (by unfold adv; split <;> exact h)
/-- the search for what isn't there -/
theorem search_new (R : Tab P w s.heap a es t) {c : Addr} {k : List Key} (x : TKey P w s.heap k c) (hu : A.units < cLine) (new : ∀ e ∈ es.toList, ∀ k' c', e = (hk P w k', Value.ref c') → TKey P w s.heap k' c' → k' ≠ k)
    {N : Nat} (n1 : N < 10 * SetTable.turns t.mask) (n2 : way t.mask (hk P w k) N ∉ t.place.toList) (n3 : ∀ j, j < N → way t.mask (hk P w k) j ∈ t.place.toList) {Q : SetFound → Shared → Prop} (q : Q (.free (way t.mask (hk P w k) N) false) s) :
    ∀ (f j : Nat) (from_ : Option SetTable.Probe), from_.getD (t.probeStart (hk P w k)) = nth t.mask (runAt t.mask (SetTable.bits (hk P w k) % (t.mask + 1)) (SetTable.bits (hk P w k))) j → j ≤ N → N - j < f →
      wpAny (model P w) A (setSearchFrom a (.ref c) (hk P w k) true f from_) Q E s
  | 0, j, _, _, _, hf => absurd hf (Nat.not_lt_zero _)
  | f + 1, j, from_, hs, hj, hf => by
    obtain ⟨o, ep, o1, o2, o3⟩ := R.at_
    rw [setSearchFrom_succ]
    refine wpAny_bind (wpAny_setState_of o1 o3 R.fits ?_)
    dsimp only
    refine wp_if_neg R.odd ?_
    try refine wpAny_bind (wpAny_pure ?_)
    have step : ∀ q, (nth t.mask (nth t.mask (runAt t.mask (SetTable.bits (hk P w k) % (t.mask + 1)) (SetTable.bits (hk P w k))) j) q) = nth t.mask (runAt t.mask (SetTable.bits (hk P w k) % (t.mask + 1)) (SetTable.bits (hk P w k))) (j + q) :=
      fun q => (nth_add t.mask j _ q).symm
    have stepj : ∀ q, (nth t.mask (nth t.mask (runAt t.mask (SetTable.bits (hk P w k) % (t.mask + 1)) (SetTable.bits (hk P w k))) j) q).j = way t.mask (hk P w k) (j + q) := fun q => congrArg SetTable.Probe.j (step q)
    have eN : j + (N - j) = N := by omega
    rcases go_spec t R.tab.ris R.tab.dm (fun i => (es[i]?.map (·.1)).getD 0) (hk P w k) (10 * SetTable.turns t.mask) (N - j) _ (dummy_none t.mask j (runAt t.mask (SetTable.bits (hk P w k) % (t.mask + 1)) (SetTable.bits (hk P w k))) rfl) (by omega)
      (fun q hq => by rw [stepj]; exact n3 (j + q) (by omega)) (by rw [stepj, eN]; exact n2) with ⟨d, i, hd, hi, -, -, pr⟩ | ⟨-, pr⟩
    · have pr' : t.probe (fun i => (es[i]?.map (·.1)).getD 0) (hk P w k) (from_.getD (t.probeStart (hk P w k))) =
          some (.candidate (way t.mask (hk P w k) (j + d)) i (nth t.mask (runAt t.mask (SetTable.bits (hk P w k) % (t.mask + 1)) (SetTable.bits (hk P w k))) (j + (d + 1)))) := by
        rw [hs, ← stepj, ← step]
        exact pr
      rw [pr']
      dsimp only
      rw [stepj] at hi
      have il : i < es.size := by
        have := (List.getElem?_eq_some_iff.mp hi).1
        rw [Array.length_toList, R.sz] at this
        exact this
      have ei : es[i]? = some es[i] := Array.getElem?_eq_getElem il
      have em : es[i] ∈ es.toList := by simp
      obtain ⟨k', c', ee, x'⟩ := R.ents _ em
      have nk := new _ em k' c' ee x'
      have go : wpAny (model P w) A (searchRest a (.ref c) (hk P w k) true f es t (way t.mask (hk P w k) (j + d)) i (nth t.mask (runAt t.mask (SetTable.bits (hk P w k) % (t.mask + 1)) (SetTable.bits (hk P w k))) (j + (d + 1)))) Q E s := by
        unfold searchRest
        rw [ei, ee]
        dsimp only
        refine wpAny_bind (wpAny_holding (wpAny_eqBool_tuple hu x' x ?_))
        refine wpAny_bind (wpAny_setState_of o1 o3 R.fits ?_)
        dsimp only
        refine wp_if_neg (by simp [nk]) ?_
        try refine wpAny_bind (wpAny_pure ?_)
        rw [sameMem]
        dsimp only
        have lv : t.slot (way t.mask (hk P w k) (j + d)) = .live i := slot_live R.tab.ris hi
        simp only [if_true, lv, ei, ee]
        refine wpAny_bind (wpAny_isSame_ref_self (wpAny_bind (wpAny_pure ?_)))
        simp only [if_true]
        refine wp_if_neg (by simp [nk]) ?_
        exact search_new R x hu new n1 n2 n3 q f (j + (d + 1)) _ rfl (by omega) (by omega)
      by_cases hl : t.led = true
      · refine wp_if_neg (by simp [hl]) ?_
        try refine wpAny_bind (wpAny_pure ?_)
        exact go
      · refine wp_if_pos (by simp [hl]) ?_
        refine wpAny_bind (unseen x (fun y hy => ?_) ?_)
        · obtain ⟨e, he, rfl⟩ := List.mem_map.mp hy
          have he' : e ∈ es.toList := by
            have : e ∈ es ∧ e.1 = hk P w k := by simpa using he
            simpa using this.1
          obtain ⟨k2, c2, rfl, x2⟩ := R.ents e he'
          exact ⟨k2, c2, rfl, x2⟩
        · refine wp_if_neg (by decide) ?_
          try refine wpAny_bind (wpAny_pure ?_)
          exact go
    · have pr' : t.probe (fun i => (es[i]?.map (·.1)).getD 0) (hk P w k) (from_.getD (t.probeStart (hk P w k))) = some (.empty (way t.mask (hk P w k) N) none) := by
        have e2 : way t.mask (hk P w k) N = (nth t.mask (nth t.mask (runAt t.mask (SetTable.bits (hk P w k) % (t.mask + 1)) (SetTable.bits (hk P w k))) j) (N - j)).j := by rw [stepj, eN]
        rw [hs, e2]
        exact pr
      rw [pr']
      exact wpAny_pure q

theorem key_same {h h' : Heap} {k : List Key} {c : Addr} {o : Obj} {es : Array (Int × Value)} {ep : Nat} {t : SetTable} (x : TKey P w h k c) (o1 : h.get? a = some o) (o3 : o.data = .set es ep t) (sb : Heap.SameBut a h h') : TKey P w h' k c := by
  obtain ⟨ob, its, n, q1, q2, q3, q4⟩ := x
  have ne : c ≠ a := by
    rintro rfl
    rw [o1] at q1
    cases q1
    rw [o3] at q3; cases q3
  exact ⟨ob, its, n, (sb.2 c ne).trans q1, q2, q3, q4⟩
/-- the table laid anew -/
theorem relay_tab {o : Obj} {ep : Nat} (o1 : s.heap.get? a = some o) (o2 : o.ExactSet) (o3 : o.data = .set es ep t) (z1 : t.place.size = es.size) (z2 : t.dummies = #[]) (z3 : es.size ≤ t.mask) (ld : w.params.followText "set-order" = true ∨ t.led = true) (few : es.size < 64)
    (ents : ∀ e ∈ es.toList, ∃ k c, e = (hk P w k, Value.ref c) ∧ TKey P w s.heap k c) {wish M : Nat} (m1 : SetTable.sizeAbove wish - 1 = M) (m2 : MaskOk M) (m3 : SetTable.sizeAbove wish ≤ 128) (m4 : es.size * 5 < M * 3) {Q : Unit → Shared → Prop}
    (q : ∀ h' es' t', Heap.SameBut a s.heap h' → Tab P w h' a es' t' → es'.toList.Perm es.toList → Q () { s with heap := h' }) : wpAny (model P w) A (setRelay a wish) Q E s := by
  obtain ⟨t', order, e, pm, T, em, el, -, -⟩ := relaid_ok t (hs := es.map (·.1)) (wanted := wish) m1 m2 (by rw [Array.size_map]; omega)
  rw [Array.size_map] at pm
  have lt : ∀ i ∈ order.toList, i < es.toList.length := fun i hi => by
    have := List.mem_range.mp (pm.mem_iff.mp hi)
    simpa using this
  have f1 : (order.filterMap (es[·]?)).toList = order.toList.filterMap fun i => es.toList[i]? := by simp
  have f2 : (order.filterMap (es[·]?)).toList.Perm es.toList := by
    rw [f1]
    refine (pm.filterMap _).trans ?_
    have := pick_all es.toList es.toList.length (Nat.le_refl _)
    rw [Array.length_toList] at this
    rw [this, ← Array.length_toList, List.take_length]
  have f3 : (order.filterMap (es[·]?)).toList.map (·.1) = order.toList.map fun i => (es.map (·.1)).getD i 0 := by
    rw [f1, pick_fst es.toList 0 order.toList lt]
    refine List.map_congr_left fun i _ => ?_
    simp [List.getD_eq_getElem?_getD, Array.getD_eq_getD_getElem?]
  rw [← f3] at T
  have f4 : (order.filterMap (es[·]?)).size = es.size := by rw [← Array.length_toList, f2.length_eq, Array.length_toList]
  rw [setRelay_eq]
  refine wpAny_bind (wpAny_setState_of o1 o3 (fits_of z1 z2 z3) ?_)
  dsimp only
  refine wp_if_neg (by rw [sizeLine_eq]; omega) ?_
  try refine wpAny_bind (wpAny_pure ?_)
  rw [e]
  dsimp only
  refine wpAny_bind (wp_if_neg (by rw [f4]; simp) ?_)
  try refine wpAny_bind (wpAny_pure ?_)
  refine wpAny_pure ?_
  dsimp only
  refine wpAny_storeSet_of o1 o3 ?_ (by rw [f4, sizeLine_eq]; omega)
  have sb : Heap.SameBut a s.heap (s.heap.update a (Obj.putSet (order.filterMap (es[·]?)) t')) := Heap.SameBut.update ..
  refine q _ _ t' sb ⟨⟨_, _, store_at o1 o3, ⟨o2.1, o2.2.1, o2.2.2⟩, rfl⟩, T, by rw [el]; exact ld, by rw [f4, em]; exact m4, by rw [f4]; exact few, fun u hu => ?_⟩ f2
  obtain ⟨k, c, eu, x⟩ := ents u (f2.mem_iff.mp hu)
  exact ⟨k, c, eu, key_same x o1 o3 sb⟩
/-- what isn't there is put -/
theorem add_new (R : Tab P w s.heap a es t) {c : Addr} {k : List Key} (x : TKey P w s.heap k c) (hu : A.units < cLine) (few : es.size + 1 < 64) (new : ∀ e ∈ es.toList, ∀ k' c', e = (hk P w k', Value.ref c') → TKey P w s.heap k' c' → k' ≠ k) {Q : Bool → Shared → Prop}
    (q : ∀ b h' es' t', Heap.SameBut a s.heap h' → Tab P w h' a es' t' → es'.toList.Perm ((hk P w k, Value.ref c) :: es.toList) → Q b { s with heap := h' }) : wpAny (model P w) A (setAddHashed a (.ref c) (hk P w k)) Q E s := by
  obtain ⟨o, ep, o1, o2, o3⟩ := R.at_
  have room := R.room
  obtain ⟨N, n1, n2, n3⟩ := R.tab.first (by simp; omega) (hk P w k)
  have nb : N < 100000 := by
    have : 10 * SetTable.turns t.mask ≤ 1420 := by
      unfold SetTable.turns
      rcases R.tab.mok with e | e | e <;> omega
    omega
  unfold setAddHashed
  refine wpAny_holding ?_
  rw [show (100000 : Nat) = 99999 + 1 from rfl, setAddHashedIn_succ]
  refine wpAny_bind (wpAny_setState_of o1 o3 R.fits ?_)
  dsimp only
  refine wp_if_neg (by simp [byScan, Value.scannable]) ?_
  try refine wpAny_bind (wpAny_pure ?_)
  refine wpAny_bind ?_
  unfold setSearch
  refine search_new R x hu new n1 n2 n3 ?_ 100000 0 none rfl (Nat.zero_le _) (by omega)
  dsimp only
  refine wpAny_bind (wpAny_setState_of o1 o3 R.fits ?_)
  dsimp only
  obtain ⟨p1, p2, p3, p4, p5, -, -, -, p9⟩ := R.tab.put n2 n3
  generalize hp : t.put (way t.mask (hk P w k) N) = pt at p1 p3 p4 p5 p9 ⊢
  obtain ⟨t1, ix⟩ := pt
  dsimp only at p1 p3 p4 p5 p9 ⊢
  subst p1
  generalize hix : SetTable.below t.place (way t.mask (hk P w k) N) = ix at p2 p3 ⊢
  have l0 : (SetTable.insertAt es ix (hk P w k, Value.ref c)).toList = es.toList.take ix ++ (hk P w k, Value.ref c) :: es.toList.drop ix := SetTable.toList_insertAt ..
  generalize SetTable.insertAt es ix (hk P w k, Value.ref c) = es1 at l0 ⊢
  have pm : es1.toList.Perm ((hk P w k, Value.ref c) :: es.toList) := by
    rw [l0]
    have h1 : (es.toList.take ix ++ (hk P w k, Value.ref c) :: es.toList.drop ix).Perm ((hk P w k, Value.ref c) :: (es.toList.take ix ++ es.toList.drop ix)) := List.perm_middle
    rwa [List.take_append_drop] at h1
  have sz1 : es1.size = es.size + 1 := by
    have := pm.length_eq
    simpa using this
  have T1 : TabOk t1 (es1.toList.map (·.1)) := by
    rw [l0, List.map_append, List.map_cons, List.map_take, List.map_drop]
    exact p3
  have tail : ∀ t2 : SetTable, TabOk t2 (es1.toList.map (·.1)) → t2.mask = t.mask → t2.led = t.led → t2.fill = es.size + 1 → wpAny (model P w) A (do
      storeSet a es1 t2
      if (!false && t2.tooFull) = true then do
        setRelay a (SetTable.grown (es.size + 1))
        pure true
      else pure true) Q E s := fun t2 T2 m2 d2 l2 => by
    refine wpAny_bind (wpAny_storeSet_of o1 o3 ?_ (by rw [sz1, sizeLine_eq]; omega))
    have sb : Heap.SameBut a s.heap (s.heap.update a (Obj.putSet es1 t2)) := Heap.SameBut.update ..
    have at1 := store_at (es' := es1) (t' := t2) o1 o3
    generalize s.heap.update a (Obj.putSet es1 t2) = h1 at sb at1 ⊢
    have en : ∀ e ∈ es1.toList, ∃ k c, e = (hk P w k, Value.ref c) ∧ TKey P w h1 k c := fun e he => by
      rcases List.mem_cons.mp (pm.mem_iff.mp he) with rfl | he
      · exact ⟨k, c, rfl, key_same x o1 o3 sb⟩
      · obtain ⟨k', c', ee, x'⟩ := R.ents e he
        exact ⟨k', c', ee, key_same x' o1 o3 sb⟩
    have ld : w.params.followText "set-order" = true ∨ t2.led = true := by rw [d2]; exact R.led
    have zp : t2.place.size = es1.size := by
      have := T2.sz
      simpa using this
    by_cases full : t2.tooFull = true
    · refine wp_if_pos (by simp [full]) ?_
      have hf : (es.size + 1) * 5 ≥ t2.mask * 3 := by
        unfold SetTable.tooFull at full
        rw [decide_eq_true_eq, l2] at full
        exact full
      rw [m2] at hf
      have two : (t.mask = 7 ∧ es.size = 4) ∨ (t.mask = 31 ∧ es.size = 18) := by
        rcases R.tab.mok with e | e | e <;> rw [e] at hf room <;> omega
      have go : ∀ M, SetTable.sizeAbove (SetTable.grown (es.size + 1)) - 1 = M → MaskOk M → SetTable.sizeAbove (SetTable.grown (es.size + 1)) ≤ 128 → es1.size * 5 < M * 3 →
          wpAny (model P w) A (do setRelay a (SetTable.grown (es.size + 1)); pure true) Q E { s with heap := h1 } := fun M a1 a2 a3 a4 => by
        refine wpAny_bind (relay_tab (s := { s with heap := h1 }) at1 ⟨o2.1, o2.2.1, o2.2.2⟩ rfl zp T2.dm (by omega) ld (by omega) en a1 a2 a3 a4 fun h2 es2 t3 sb2 R2 pm2 => ?_)
        exact wpAny_pure (q true h2 es2 t3 (sb.trans sb2) R2 (pm2.trans pm))
      rcases two with ⟨-, e⟩ | ⟨-, e⟩
      · exact go 31 (by rw [e, size_20]) (.inr (.inl rfl)) (by rw [e, size_20]; decide) (by omega)
      · exact go 127 (by rw [e, size_76]) (.inr (.inr rfl)) (by rw [e, size_76]; decide) (by omega)
    · refine wp_if_neg (by simp [full]) ?_
      have nf : ¬ (es.size + 1) * 5 ≥ t2.mask * 3 := fun h => full (by
        unfold SetTable.tooFull
        rw [decide_eq_true_eq, l2]
        exact h)
      exact wpAny_pure (q true h1 es1 t2 sb ⟨⟨_, _, at1, ⟨o2.1, o2.2.1, o2.2.2⟩, rfl⟩, T2, ld, by omega, by omega, en⟩ pm)
  have f1 : t1.fill = es.size + 1 := by
    rw [p9]; simp
  have T0 : TabOk { t1 with plain := false } (es1.toList.map (·.1)) := ⟨T1.ris, T1.dm, T1.sz, T1.mok, T1.bd, T1.reach⟩
  by_cases pl : t1.plain = true
  · refine wp_if_pos pl (wpAny_bind (anyValue x fun b => ?_))
    cases b with
    | true => exact tail t1 T1 p4 p5 f1
    | false => exact tail { t1 with plain := false } T0 p4 p5 f1
  · refine wp_if_neg pl (wpAny_bind (wpAny_pure ?_))
    exact tail t1 T1 p4 p5 f1

/-! ### a set of texts, none twice -/
structure Txts (w : World) (h : Heap) (a : Addr) (es : Array (Int × Value)) (t : SetTable) : Prop where
  at_ : ∃ o ep, h.get? a = some o ∧ o.ExactSet ∧ o.data = .set es ep t
  ents : ∀ e ∈ es.toList, ∃ z tk, e.2 = Value.str z tk
  few : es.size < 64
  fits : t.fits es.size = true
  ris : Ris t.place.toList
  led : w.params.followText "set-order" = true ∨ t.led = true
theorem add_txt (R : Txts w s.heap a es t) {z : Str} {tk : Tok} {hz : Int} (few : es.size + 1 < 64) (new : ∀ e ∈ es.toList, e.2.isStr z = false) {Q : Bool → Shared → Prop}
    (q : ∀ b h' es' t', Heap.SameBut a s.heap h' → Txts w h' a es' t' → es'.toList.Perm ((hz, Value.str z tk) :: es.toList) → Q b { s with heap := h' }) : wpAny (model P w) A (setAddHashed a (.str z tk) hz) Q E s := by
  obtain ⟨o, ep, o1, o2, o3⟩ := R.at_
  have few0 := R.few
  have all1 : es.all (fun e => e.2.scannable) = true := by
    rw [Array.all_eq_true']
    intro e he
    obtain ⟨y, ty, ey⟩ := R.ents e (by simpa using he)
    rw [ey]; rfl
  have all2 : es.all (fun e => isExactStrKey e.2) = true := by
    rw [Array.all_eq_true']
    intro e he
    obtain ⟨y, ty, ey⟩ := R.ents e (by simpa using he)
    rw [ey]; rfl
  have none1 : es.findIdx? (fun e => e.2.isStr z) = none := by
    rw [Array.findIdx?_eq_none_iff]
    exact fun e he => new e (by simpa using he)
  have bs : byScan (.str z tk) es = true := by
    unfold byScan
    rw [all1, Bool.and_true, Bool.and_eq_true]
    exact ⟨rfl, decide_eq_true (by unfold scanBound; omega)⟩
  unfold setAddHashed
  refine wpAny_holding ?_
  rw [show (100000 : Nat) = 99999 + 1 from rfl, setAddHashedIn_succ]
  refine wpAny_bind (wpAny_setState_of o1 o3 R.fits ?_)
  dsimp only
  refine wp_if_pos bs ?_
  unfold setAddByScan
  refine wpAny_bind ?_
  refine wpAny_bind (wpAny_rule ?_)
  have sc : setScan a (.str z tk) hz true es = pure .absent := by
    show (if es.all (fun e => isExactStrKey e.2) = true then setScanStrs a (.str z tk) z true es else _) = _
    rw [if_pos all2]
    unfold setScanStrs
    rw [none1]
  rw [sc]
  refine wpAny_bind (wpAny_pure ?_)
  dsimp only
  have pm := layNew_perm t es hz (.str z tk)
  have ft := layNew_fits t es hz (.str z tk)
  have rs := layNew_ris t es hz (.str z tk) R.ris
  have ld := layNew_led t es hz (.str z tk)
  generalize layNew t es hz (.str z tk) = got at pm ft rs ld ⊢
  obtain ⟨es1, t1, wd, gave⟩ := got
  dsimp only at pm ft rs ld ⊢
  rw [Array.toList_push] at pm
  have pm1 : es1.toList.Perm ((hz, Value.str z tk) :: es.toList) := pm.trans (List.perm_append_singleton _ _)
  have sz1 : es1.size = es.size + 1 := by
    have := pm1.length_eq
    simpa using this
  have en1 : ∀ e ∈ es1.toList, ∃ y ty, e.2 = Value.str y ty := fun e he => by
    rcases List.mem_cons.mp (pm1.mem_iff.mp he) with rfl | he
    · exact ⟨z, tk, rfl⟩
    · exact R.ents e he
  have quiet : ∀ (b : Bool) {s1 : Shared} {Q1 : Unit → Shared → Prop}, Q1 () s1 → wpAny (model P w) A (match b with | true => rule "set.scan.the-table-gave-way" | false => pure ()) Q1 E s1 := fun b s1 Q1 h => by
    cases b
    · exact wpAny_pure h
    · exact wpAny_rule h
  have tail : ∀ (g : Bool → Sem Unit) (t2 : SetTable), t2.fits es1.size = true → Ris t2.place.toList → t2.led = t.led → (∀ (b : Bool) (s1 : Shared) (Q1 : Unit → Shared → Prop), Q1 () s1 → wpAny (model P w) A (g b) Q1 E s1) →
      wpAny (model P w) A (do
        storeSet a es1 t2
        if (!wd && t2.tooFull) = true then do
          g (relayAll t2 es1 (SetTable.grown es1.size)).2.2
          storeSet a (relayAll t2 es1 (SetTable.grown es1.size)).1 (relayAll t2 es1 (SetTable.grown es1.size)).2.1
          pure (some true)
        else pure (some true)) (fun r s' => wpAny (model P w) A (match r with | some added => pure added | none => setAddHashedIn a (Value.str z tk) hz 99999) Q E s') E s := fun g t2 ft2 rs2 ld2 hg => by
    refine wpAny_bind (wpAny_storeSet_of o1 o3 ?_ (by rw [sz1, sizeLine_eq]; omega))
    have sb : Heap.SameBut a s.heap (s.heap.update a (Obj.putSet es1 t2)) := Heap.SameBut.update ..
    have at1 := store_at (es' := es1) (t' := t2) o1 o3
    generalize s.heap.update a (Obj.putSet es1 t2) = h1 at sb at1 ⊢
    by_cases c : (!wd && t2.tooFull) = true
    · refine wp_if_pos c ?_
      have pm2 := relayAll_perm t2 es1 (SetTable.grown es1.size)
      have ft3 := relayAll_fits t2 es1 (SetTable.grown es1.size)
      have rs3 := relayAll_ris t2 es1 (SetTable.grown es1.size)
      have ld3 := relayAll_led t2 es1 (SetTable.grown es1.size)
      generalize relayAll t2 es1 (SetTable.grown es1.size) = got at pm2 ft3 rs3 ld3 ⊢
      obtain ⟨es2, t3, gv⟩ := got
      dsimp only at pm2 ft3 rs3 ld3 ⊢
      have sz2 : es2.size = es.size + 1 := by
        have := pm2.length_eq
        simp only [Array.length_toList] at this
        omega
      refine wpAny_bind (hg _ _ _ ?_)
      refine wpAny_bind (wpAny_storeSet_of at1 rfl ?_ (by rw [sz2, sizeLine_eq]; omega))
      have sb2 : Heap.SameBut a h1 (h1.update a (Obj.putSet es2 t3)) := Heap.SameBut.update ..
      have at2 := store_at (es' := es2) (t' := t3) at1 rfl
      refine wpAny_pure ?_
      refine wpAny_pure (q true _ es2 t3 (sb.trans sb2) ⟨⟨_, _, at2, ⟨o2.1, o2.2.1, o2.2.2⟩, rfl⟩, fun e he => en1 e (pm2.mem_iff.mp he), by omega, ft3, rs3, by rw [ld3, ld2]; exact R.led⟩ (pm2.trans pm1))
    · refine wp_if_neg c ?_
      refine wpAny_pure ?_
      exact wpAny_pure (q true h1 es1 t2 sb ⟨⟨_, _, at1, ⟨o2.1, o2.2.1, o2.2.2⟩, rfl⟩, en1, by omega, ft2, rs2, by rw [ld2]; exact R.led⟩ pm1)
  refine wpAny_bind (quiet _ ?_)
  have hg : ∀ (b : Bool) (s1 : Shared) (Q1 : Unit → Shared → Prop), Q1 () s1 → wpAny (model P w) A (match b with | true => rule "set.scan.the-table-gave-way" | false => pure ()) Q1 E s1 := fun b s1 Q1 h => quiet b h
  by_cases pl : t1.plain = true
  · refine wp_if_pos pl (wpAny_bind ?_)
    rw [hashByValue_scannable 8 (by rfl)]
    refine wpAny_pure ?_
    exact tail _ { t1 with plain := false } (SetTable.fits_plain_off ft) rs ld hg
  · refine wp_if_neg pl (wpAny_bind (wpAny_pure ?_))
    exact tail _ t1 ft rs ld hg
end QS
set_option Elab.async false
set_option linter.all false
set_option maxRecDepth 100000
set_option maxHeartbeats 4000000
namespace QS
open PySem PySem.Spec PyProof.Rows L2
variable {P : Program} {w : World} {A : Around} {E : Value → Shared → Prop} {s : Shared}
/-- a heap that holds another -/
def Ext (h h' : Heap) : Prop := ∀ b o, h.get? b = some o → h'.get? b = some o
/-- set.update's loop, by what holds of the set between the items -/
theorem fill_loop {I : Addr} {fp wr : List Addr} {G : Array GenState → Array GenState → Prop} {n : Nat} {Pv : Nat → Value → Prop} {St : Nat → Shared → Prop} {R : Result → Shared → Prop} (W : WalksS P w A.in1 I fp wr G n Pv St) (S : Addr) (nS : S ∉ fp)
    (h0 : Heap) (fS : h0.get? S = none) (fw : ∀ b ∈ wr, h0.get? b = none) (J : Nat → Heap → Prop) (stay : ∀ i h h', (∀ o, h.get? S = some o → h'.get? S = some o) → Ext h0 h' → J i h → J i h')
    (put : ∀ (i : Nat) (v : Value) (z : Shared) (Q : Bool → Shared → Prop) (E' : Value → Shared → Prop), Pv i v → J i z.heap → Ext h0 z.heap → (∀ b h' tk, Heap.SameBut S z.heap h' → z.toks ≤ tk → J (i + 1) h' → Q b { z with heap := h', toks := tk }) → wpAny (model P w) A.in1 (setAdd S v) Q E' z) :
    ∀ (left i : Nat) (z : Shared), n - i = left → i ≤ n → St i z → Ext h0 z.heap → J i z.heap → (∀ z', Moved (S :: wr) G z z' → J n z'.heap → Ext h0 z'.heap → R (.ok (.ret .none)) z') → codeAny (model P w) A (.builtin "set.update.loop" ⟨[.ref S, .ref I], []⟩) R z := by
  have nw : S ∉ wr := fun h => nS (W.sub _ h)
  have more : ∀ b ∈ wr, b ∈ S :: wr := fun b hb => by simp [hb]
  have ext : ∀ {z z' : Shared}, Moved wr G z z' → Ext h0 z.heap → Ext h0 z'.heap := fun hm x b o e => hm.heap b o (fun hb => by rw [fw b hb] at e; cases e) (x b o e)
  intro left
  induction left with
  | zero =>
    intro i z hl hi st x j done
    obtain rfl : i = n := by omega
    refine codeAny_builtin F.entry_set_update_loop ?_
    rw [Around.under_plainId F.plain_set_update_loop _]
    refine wpAny_bind (W.done z _ _ st fun z' hm => ?_)
    have x' := ext hm x
    exact wpAny_pure (done z' (hm.mono more) (stay i _ _ (fun o e => hm.heap S o nw e) x' j) x')
  | succ left ih =>
    intro i z hl hi st x j done
    have lt : i < n := by omega
    refine codeAny_builtin F.entry_set_update_loop ?_
    rw [Around.under_plainId F.plain_set_update_loop _]
    refine wpAny_bind (W.item i z _ _ lt st fun v z' pv st' hm => ?_)
    have x' := ext hm x
    have j' := stay i _ _ (fun o e => hm.heap S o nw e) x' j
    show wpAny _ A.in1 (holding [v] (setAdd S v) >>= _) _ _ z'
    refine wpAny_bind (wpAny_holding (put i v z' _ _ pv j' x' fun b h' tk sb tl j2 => ?_))
    have x2 : Ext h0 h' := fun b o e => (sb.2 b (fun q => by rw [q, fS] at e; cases e)).trans (x' b o e)
    refine wpAny_pure ⟨plainId_quiet F.plain_set_update_loop _, ih (i + 1) _ (by omega) lt (W.frame _ z' _ _ st' tl fun b hb o e => ?_) x2 j2 fun z3 hm3 j3 x3 => ?_⟩
    · exact (sb.2 b fun q => nS (q ▸ hb)).trans e
    · refine done z3 (Moved.trans W.gtrans ((hm.mono more).then_heap tl fun b o hb e => ?_) hm3) j3 x3
      exact (sb.2 b fun q => hb (by simp [q])).trans e

abbrev bare (w : World) : Obj := { cls := .type "set", dict := none, data := .set #[] 0 (.fresh 0 0 (!w.params.followText "set-order")) }
set_option maxHeartbeats 6400000 in
/-- set(xs), xs a list -/
theorem call_set {l : Addr} {items : Array Value} {Q : Value → Shared → Prop} (hh : A.handled = none) (hl : s.heap.IsList l items) (J : Nat → Heap → Prop)
    (j0 : ∀ h, h.get? s.heap.objs.size = some (bare w) → Ext s.heap h → J 0 h) (stay : ∀ i h h', (∀ o, h.get? s.heap.objs.size = some o → h'.get? s.heap.objs.size = some o) → Ext s.heap h' → J i h → J i h')
    (put : ∀ (B : Around) (i : Nat) (v : Value) (z : Shared) (Q : Bool → Shared → Prop) (E' : Value → Shared → Prop), B.units ≤ A.units + 4 → items[i]? = some v → J i z.heap → Ext s.heap z.heap → (∀ b h' tk, Heap.SameBut s.heap.objs.size z.heap h' → z.toks ≤ tk → J (i + 1) h' → Q b { z with heap := h', toks := tk }) →
      wpAny (model P w) B (setAdd s.heap.objs.size v) Q E' z)
    (done : ∀ h' tk, J items.size h' → Ext s.heap h' → Q (.ref s.heap.objs.size) { s with heap := h', toks := tk }) : wpAny (model P w) A (call (.type "set") [.ref l]) Q E s := by
  obtain ⟨c, tl, mro⟩ := F.called_set.mro
  have made := F.called_set.made
  have sub0 := F.called_set.sub
  refine wpAny_call (codeAny_of_tree ?_)
  show wpAny _ _ (callAny (.type "set") _) _ _ _
  refine wpAny_pure ⟨Code.quiet_builtin _ (by decide +kernel), codeAny_builtin F.entry_type_call ?_⟩
  rw [Around.under_plain (weight_type_call_type "set" [.ref l] []) rfl]
  have c1 := F.called_set.notType
  have c2 := F.called_set.canCreate
  have c3 := F.typeCall_set_1 (.ref l)
  repeat (any_goals (first | assumption | wp_step))
  refine codeAny_mono (code_set_led1 (.ref l) (E := E) (Q₁ := fun v z => v = .ref s.heap.objs.size ∧ z = { s with heap := s.heap.push (bare w) }) ⟨rfl, rfl⟩) fun r z hr => ?_
  cases r with
  | error e => exact hr
  | ok fl =>
    cases fl with
    | ret v =>
      obtain ⟨rfl, rfl⟩ := hr
      have at0 : (s.heap.push (bare w)).get? s.heap.objs.size = some (bare w) := Heap.get?_push_size _ rfl
      have ty0 : Shared.TypeIs { s with heap := s.heap.push (bare w) } (.ref s.heap.objs.size) "set" := ⟨_, at0, rfl⟩
      have i1 := F.called_set.init.lookup
      have i2 := F.called_set.init.bind (.ref s.heap.objs.size)
      repeat (any_goals (first | assumption | wp_step))
      refine codeAny_mono (codeAny_call_builtin (R := wants (fun r z => r = .none ∧ ∃ h' tk, z = { s with heap := h', toks := tk } ∧ J items.size h' ∧ Ext s.heap h') E) F.called_set.init.plain F.entry_set_init (check_set_init_1 ty0 ?_)) fun r2 z2 hr2 => ?_
      · obtain ⟨ob, q1, q2, q3, q4⟩ := hl
        obtain ⟨k1, k2, k3, k4⟩ := ob
        simp only at q2 q4
        subst q2
        subst q4
        have q5 : (s.heap.push (bare w)).get? l = some { cls := .type "list", dict := k2, data := .seq items q3, slots := k4 } := Heap.get?_push_of_some _ q1
        have g1 := F.sub_list_set
        have g2 := F.sub_list_frozenset
        have g3 : (Value.type "list" == Value.type "dict") = false := by decide
        have il : (s.heap.push (bare w)).IsList l items := ⟨_, q5, rfl, q3, rfl⟩
        unfold Builtin.«set.__init__» noKeywords Builtin.Frozenset.updateFrom
        generalize hPI : pyIter = PI
        wp_walk
        subst hPI
        refine wpAny_pyIter_list il ?_
        refine wpAny_bind (wpAny_runValue ?_)
        have ll : l < s.heap.objs.size := Heap.lt_size q1
        have zz : (s.heap.push (bare w)).objs.size = s.heap.objs.size + 1 := Heap.size_push ..
        have gone : ∀ b, s.heap.objs.size ≤ b → s.heap.get? b = none := fun b hb => by
          cases q : s.heap.get? b with
          | none => rfl
          | some o => exact absurd (Heap.lt_size q) (Nat.not_lt.mpr hb)
        have ne1 : l ≠ (s.heap.push (bare w)).objs.size := by
          rw [zz]
          exact Nat.ne_of_lt (Nat.lt_succ_of_lt ll)
        have ne2 : s.heap.objs.size ∉ [(s.heap.push (bare w)).objs.size, l] := by
          rw [zz]
          simp only [List.mem_cons, List.not_mem_nil, or_false, not_or]
          exact ⟨Nat.ne_of_lt (Nat.lt_succ_self _), Nat.ne_of_gt ll⟩
        refine fill_loop ((Walks.list (by simp [hh]) _ l ne1 items).toS) s.heap.objs.size ne2 s.heap (gone _ (Nat.le_refl _)) (fun b hb => gone b (by rw [List.mem_singleton.mp hb, zz]; exact Nat.le_succ _)) J stay
          (fun i v z Q1 E1 pv j x k => put _ i v z Q1 E1 ?units pv j x k) (items.size - 0) 0 _ rfl (Nat.zero_le _) ⟨⟨_, Heap.get?_push_size _ rfl, rfl, rfl⟩, il.push _⟩ (fun b o e => Heap.get?_push_of_some _ (Heap.get?_push_of_some _ e)) (j0 _ (Heap.get?_push_of_some _ at0) fun b o e => Heap.get?_push_of_some _ (Heap.get?_push_of_some _ e)) ?fin
        case units =>
          show A.units + 3 ≤ A.units + 4
          exact Nat.le_succ _
        case fin =>
          intro z' hm j x
          obtain ⟨h', g', d', tk', os'⟩ := z'
          obtain rfl : g' = s.gens := hm.gens
          obtain rfl : d' = s.drawn := hm.drawn
          obtain rfl : os' = s.os := hm.os
          refine wpAny_pure ?_
          exact wpAny_pure ⟨rfl, h', tk', rfl, j, x⟩
      · cases r2 with
        | error e => exact hr2
        | ok fl2 =>
          cases fl2 with
          | ret r =>
            obtain ⟨rfl, h', tk, rfl, j, x⟩ := hr2
            repeat (any_goals (first | assumption | wp_step))
            exact done _ _ j x
          | _ => exact hr2.elim
    | _ => exact hr.elim
end QS
set_option Elab.async false
set_option linter.all false
set_option maxRecDepth 100000
set_option maxHeartbeats 4000000
namespace QS
open PySem PySem.Spec PyProof.Rows L2
open PySem.W (EachIs dataLe dataLt AllAlike Sortable)
variable {P : Program} {w : World} {A : Around} {E : Value → Shared → Prop} {s : Shared} {a : Addr}

/-! ### orders -/
section
variable {β : Type} {enc : β → PyData}
theorem le_trans' (x y z : β) (h : dataLe false enc x y = true) (g : dataLe false enc y z = true) : dataLe false enc x z = true := by
  have h : (!dataLt (enc y) (enc x)) = true := h
  have g : (!dataLt (enc z) (enc y)) = true := g
  show (!dataLt (enc z) (enc x)) = true
  cases q : dataLt (enc z) (enc x) with
  | false => rfl
  | true =>
    rcases lex_negTrans _ (PySem.W.keyToks (enc y)) _ q with u | u
    · have u : dataLt (enc z) (enc y) = true := u
      rw [u] at g; cases g
    · have u : dataLt (enc y) (enc x) = true := u
      rw [u] at h; cases h
theorem le_total' (x y : β) : (dataLe false enc x y || dataLe false enc y x) = true := by
  show ((!dataLt (enc y) (enc x)) || (!dataLt (enc x) (enc y))) = true
  cases h : dataLt (enc y) (enc x) with
  | false => rfl
  | true =>
    cases g : dataLt (enc x) (enc y) with
    | false => rfl
    | true =>
      have t := lex_trans _ _ _ h g
      rw [lex_irrefl] at t; cases t
end
theorem each_perm {α β : Type} {R : α → β → Prop} {as cs : List α} (p : as.Perm cs) : ∀ {bs : List β}, EachIs R as bs → ∃ ds, EachIs R cs ds ∧ ds.Perm bs := by
  induction p with
  | nil => exact fun {bs} e => ⟨bs, e, .refl _⟩
  | cons x _ ih =>
    intro bs e
    cases e with
    | cons r e =>
      obtain ⟨ds, e', p'⟩ := ih e
      exact ⟨_ :: ds, .cons r e', p'.cons _⟩
  | swap x y l =>
    intro bs e
    cases e with
    | cons r e =>
      cases e with
      | cons r' e => exact ⟨_ :: _ :: _, .cons r' (.cons r e), List.Perm.swap _ _ _⟩
  | trans _ _ ih1 ih2 =>
    intro bs e
    obtain ⟨ds, e', p'⟩ := ih1 e
    obtain ⟨fs, e2, p2⟩ := ih2 e'
    exact ⟨fs, e2, p2.trans p'⟩
/-- a set that can be walked: its values -/
def Full (w : World) (h : Heap) (a : Addr) (vs : List Value) : Prop := ∃ es ep t, SetAt h a es ep t ∧ t.fits es.size = true ∧ es.size < scanBound ∧ Ris t.place.toList ∧ (w.params.followText "set-order" = true ∨ t.led = true) ∧ (es.toList.map (·.2)).Perm vs
/-- sorted(that set) -/
theorem sort_full {β : Type} {enc : β → PyData} {W : Value → β → Prop} {vs : List Value} {bs : List β} {Q : Value → Shared → Prop} (D : Full w s.heap a vs) (hh : A.handled = none) (e : EachIs (fun v b => Reads s.heap v (enc b) [] ∧ W v b) vs bs) (hal : AllAlike (bs.map enc)) (hk : Sortable (bs.map enc))
    (hu : ∀ b ∈ bs, A.units + 2 + (enc b).depth < cLine) (few : bs.length < 4096)
    (q : ∀ s' p (out : List Value) (c : Nat) (ds : List β), Ext s.heap s'.heap → s'.gens = s.gens → s'.os = s.os → s.heap.objs.size ≤ p → s'.heap.get? p = some (seqObj "list" out.toArray c) → EachIs W out ds → ds.Perm bs → ds.Pairwise (fun x y => dataLe false enc x y = true) → Q (.ref p) s') :
    wpAny (model P w) A (call (.builtin "sorted") [.ref a]) Q E s := by
  obtain ⟨es, ep, t, at_, ft, sm, rs, ld, pv⟩ := D
  refine Calls.call_function_entry kind_sorted plain_sorted entry_sorted (args_sorted1 _) ?_
  unfold Builtin.«sorted»
  refine wpAny_bind (m := checkCount "sorted" 1 1 _) (wpAny_pure ?_)
  refine wpAny_bind (collect_set (A := A.in1) hh at_ ft sm rs ld fun s1 us k1 z1 g1 o1 pu => ?_)
  obtain ⟨bs1, e1, pb⟩ := each_perm (pu.trans pv).symm e
  have lus : us.length = bs1.length := e1.length
  have lb : bs1.length = bs.length := pb.length_eq
  have small : us.length ≤ sizeLine := by rw [sizeLine_eq]; omega
  refine wpAny_bind (wpAny_newList ?_ small)
  have at1 : (s1.heap.push (seqObj "list" us.toArray 0)).get? s1.heap.objs.size = some (seqObj "list" us.toArray 0) := Heap.get?_push_size _ rfl
  have rd : ∀ v b, (Reads s.heap v (enc b) [] ∧ W v b) → ∃ as, Reads (s1.heap.push (seqObj "list" us.toArray 0)) v (enc b) as ∧ s1.heap.objs.size ∉ as := fun v b h => ⟨[], PyProof.Rows.Reads.keeps (fun c o x => Heap.get?_push_of_some _ (k1 c o x)) h.1, by simp⟩
  have sub : ∀ d ∈ bs1.map enc, d ∈ bs.map enc := fun d hd => (pb.map enc).mem_iff.mp hd
  refine wpAny_bind (wpAny_holding (PySem.W.list_sort_data (s := { s1 with heap := s1.heap.push (seqObj "list" us.toArray 0) }) (R := W) (enc := enc) at1 (e1.mono fun _ _ h => h.2) (e1.mono rd) (fun d hd d' hd' => hal d (sub d hd) d' (sub d' hd'))
    (hk.imp (fun h d hd => h d (sub d hd)) fun h d hd => h d (sub d hd)) (by rw [← lus]; exact small) (fun b hb => by have := hu b (pb.mem_iff.mp hb); show A.units + 1 + 1 + _ < _; omega) fun out lo eo => ?_))
  obtain ⟨c, hc⟩ := sortedHeap_at (vs := us) (out := out.toArray) at1
  refine wpAny_pure ⟨_, rfl, q _ s1.heap.objs.size out c _ (fun b o x => ?_) g1 o1 z1 hc eo ((List.mergeSort_perm _ _).trans pb) (List.pairwise_mergeSort (fun x y z => le_trans' x y z) (fun x y => le_total' x y) _)⟩
  have x1 := k1 b o x
  have lt := Heap.lt_size x1
  exact (sortedHeap_old (Nat.ne_of_lt lt) (by rw [size_push']; exact Nat.lt_succ_of_lt lt)).trans (Heap.get?_push_of_some _ x1)
end QS
set_option Elab.async false
set_option linter.all false
set_option maxRecDepth 100000
set_option maxHeartbeats 4000000
namespace QS
open PySem PySem.Spec PyProof.Rows L2
open PySem.W (EachIs dataLe dataLt AllAlike Sortable)
open QB (Lnk ltS ltP)
section
variable {P : Program} {w : World} {A : Around} {E : Value → Shared → Prop} {s : Shared} {a : Addr}
def kD : Key → PyData
  | .inl i => .int i
  | .inr z => .str z
theorem reads_key {h : Heap} {k : List Key} {vs : List Value} (x : ItemsAre (mixKind P w) k vs) : ReadsAll h vs (k.map kD) [] := by
  induction x with
  | nil => exact .nil
  | @cons k0 u ks us q _ ih =>
    rcases keyIs_shape (show keyIs k0 u = true from q) with ⟨i, t, e1, e2⟩ | ⟨z, t, e1, e2⟩
    · subst e1; subst e2
      exact .cons (.int i t) ih
    · subst e1; subst e2
      exact .cons (.str z t) ih
theorem reads_tup {h : Heap} {k : List Key} {c : Addr} (x : TKey P w h k c) : Reads h (.ref c) (.tuple (k.map kD)) [] := by
  obtain ⟨o, its, n, h1, h2, h3, h4⟩ := x
  exact .tuple h1 h2 h3 (reads_key h4)
theorem key_ext {h h' : Heap} {k : List Key} {c : Addr} (x : TKey P w h k c) (e : Ext h h') : TKey P w h' k c := by
  obtain ⟨o, its, n, h1, r⟩ := x
  exact ⟨o, its, n, e _ _ h1, r⟩
theorem each_vals {β : Type} {f : β → V} : ∀ {vs : List Value} {bs : List β}, EachIs (fun v b => RelV (f b) v) vs bs → Vals (bs.map f) vs
  | _, _, .nil => .nil
  | _, _, .cons h t => .cons h (each_vals t)
theorem vals_each {β : Type} {f : β → V} : ∀ {bs : List β} {vs : List Value}, Vals (bs.map f) vs → EachIs (fun v b => RelV (f b) v) vs bs
  | [], _, .nil => .nil
  | b :: bs, _, .cons h t => .cons h (vals_each t)
end
section
variable {X : Cx} {pins : List (Addr × Obj)} {σ : L2.St} {H : Hp} {s : Shared}
/-- the end: sorted of the set -/
theorem srt_end {β : Type} {enc : β → PyData} {f : β → V} {a : Addr} {vs : List Value} {bs : List β} {Q : VK} (hc : X.calm = true) (hu : X.A.units + 65 < cLine) (I : Inv X pins σ H s) (D : Full X.w s.heap a vs) (e : EachIs (fun v b => Reads s.heap v (enc b) [] ∧ RelV (f b) v) vs bs)
    (hal : AllAlike (bs.map enc)) (hk : Sortable (bs.map enc)) (dp : ∀ b ∈ bs, (enc b).depth ≤ 60) (few : bs.length < 4096)
    (q : ∀ (ds : List β) (p : Addr), ds.Perm bs → ds.Pairwise (fun x y => dataLe false enc x y = true) → H p = none → Q (.ref p) (upd H p (.lst (ds.map f)))) :
    wpAny (model X.prog X.w) X.A (call (.builtin "sorted") [.ref a]) (EP X pins σ Q) X.xe s := by
  refine sort_full (W := fun v b => RelV (f b) v) D (I.ok.hd hc) e hal hk (fun b hb => by have := dp b hb; omega) few fun s' p out c ds k g o hp hg eo pm pw => ?_
  have hn : H p = none := I.hok.fresh hp
  have len : (ds.map f).length ≤ sizeLine := by
    rw [List.length_map, pm.length_eq, sizeLine_eq]; omega
  have J : Inv X pins σ (upd H p (.lst (ds.map f))) s' := I.call' (ch := []) o (Un.laid k hp hn) (I.hok.laid k hp ⟨len, out, c, each_vals eo, hg⟩) (by rw [g]; exact I.bare) (fun _ z => nomatch z)
  exact ⟨.ref p, _, J, rfl, q ds p pm pw hn⟩
/-- what sorted(set(..)) asks -/
def SrtR (X : Cx) (r : V → Hp → VK → Prop) : Prop := ∀ (pins : List (Addr × Obj)) (s : Shared) (σ : L2.St) (H : Hp) (x : V) (v : Value) (Q : VK), Inv X pins σ H s → RelV x v → r x H Q →
  wpAny (model X.prog X.w) X.A (call (.type "set") [v]) (fun u s' => wpAny (model X.prog X.w) X.A (call (.builtin "sorted") [u]) (EP X pins σ Q) X.xe s') X.xe s
def tSrt (r : V → Hp → VK → Prop) (ta : TE) : TE := fun σ H Q => ta σ H fun x H1 => r x H1 Q
theorem pe_srt {r : V → Hp → VK → Prop} {e : Expr} {ta : TE} {p p2 q pos : Pos} (R : SrtR X r) (hg : Gl X "sorted") (hm : X.mg "sorted" = none) (hg2 : Gl X "set") (hm2 : X.mg "set" = none) (ha : PE X e ta)
    (na : starEach [e] X.env = (false, eval e X.env) :: starEach [] X.env := by rfl) : PE X (.Call (.Name "sorted" p) [.Call (.Name "set" p2) [e] [] q] [] pos) (tSrt r ta) := by
  refine ⟨fun pins s σ H Q I h => ?_⟩
  refine Call_ (ld_blt I hg hm (by rfl) ?_)
  refine PyProof.Rows.callWith_builtin1 (PyProof.Rows.args_cons ?_ rfl) rfl rfl
  refine Call_ (ld_blt I hg2 hm2 PyProof.Rows.boot_set ?_)
  refine PyProof.Rows.callWith_type1 (PyProof.Rows.args_cons (thn (ha.run pins s σ H _ I h) fun v s1 ⟨x, H1, I1, r1, q1⟩ => PyProof.Rows.args_nil ?_) na) na rfl
  exact thn (R pins s1 σ H1 x v Q I1 r1 q1) fun u s2 q2 => PyProof.Rows.args_nil q2

/-! ### ints -/
def rSrtI (K : PySem.W.Frag) : V → Hp → VK → Prop := fun x H Q => ∃ (l : Addr) (ns : List Int), x = .ref l ∧ SqL K H l (ns.map V.int) ∧ ns.length < 4000 ∧
  ∀ (zs : List Int) (p : Addr), zs.Pairwise (· < ·) → (∀ k, k ∈ zs ↔ k ∈ ns) → H p = none → Q (.ref p) (upd H p (.lst (zs.map V.int)))
theorem srtI (hc : X.calm = true) (hu : X.A.units + 65 < cLine) : SrtR X (rSrtI X.K) := by
  intro pins s σ H x v Q I rx h
  obtain ⟨l, ns, rfl, hl, few, q⟩ := h
  cases rx
  obtain ⟨its, rv, pl, z⟩ := I.list hl
  have li : its.length = ns.length := by rw [← rv.length, List.length_map]
  refine call_set (I.ok.hd hc) pl.isList (fun i h => ∃ c, c ≤ i ∧ SetR X.w h s.heap.objs.size (fun j => decide (j ∈ ns.take i)) c) (fun h e _ => ⟨0, Nat.le_refl 0, setR_new_at e⟩) (fun i h h' k _ ⟨c, hc, R⟩ => ⟨c, hc, R.at k⟩) ?_ ?_
  · intro B i v z Q1 E1 _ hv ⟨c, hc', R⟩ _ k1
    rw [List.getElem?_toArray] at hv
    have hi : i < ns.length := by rw [← li]; exact (List.getElem?_eq_some_iff.mp hv).1
    obtain ⟨w', hw, tk, ew⟩ := rv.get (i := i) (x := .int ns[i]) (by simp [hi])
    rw [hv] at hw
    cases hw
    subst ew
    unfold setAdd
    refine wpAny_holding (wpAny_bind ((intKind X.prog X.w).pyHash (k := ns[i]) (intKind_is _ _ _ _) ?_))
    refine setR_add_hashed (s := { z with toks := z.toks + 1 }) R (by unfold scanBound; omega) fun h' sb R2 => ?_
    have R3 : SetR X.w h' s.heap.objs.size (fun j => decide (j ∈ ns.take (i + 1))) (if decide (ns[i] ∈ List.take i ns) = true then c else c + 1) := R2.congr fun j => by
      have et : ns.take (i + 1) = ns.take i ++ [ns[i]] := by rw [List.take_add_one, List.getElem?_eq_getElem hi]; rfl
      rw [et]
      simp only [List.mem_append, List.mem_singleton, Bool.decide_or]
    have c3 : (if decide (ns[i] ∈ List.take i ns) = true then c else c + 1) ≤ i + 1 := by
      split <;> omega
    exact k1 _ h' _ sb (Nat.le_succ _) ⟨_, c3, R3⟩
  · rintro h' tk ⟨c, hc', R⟩ ext
    rw [show its.toArray.size = ns.length from by rw [List.size_toArray]; exact li, List.take_of_length_le (Nat.le_refl _)] at R
    obtain ⟨o, es, ep, t, o1, o2, o3, g, nd, mem, sm, ft, hn, rs, ld⟩ := R
    have I2 : Inv X pins σ H { s with heap := h', toks := tk } := I.kept ext
    have each : ∀ L : List (Int × Value), (∀ e ∈ L, GoodE e) → EachIs (fun v (b : Int) => Reads h' v (.int b) [] ∧ RelV (.int b) v) (L.map (·.2)) (L.map keyOf) := by
      intro L
      induction L with
      | nil => exact fun _ => .nil
      | cons e L ih =>
        intro hL
        obtain ⟨k, u, e1, e2⟩ := hL e (by simp)
        have ek : keyOf e = k := by unfold keyOf; rw [e1]
        refine .cons ?_ (ih fun e' he => hL e' (by simp [he]))
        show Reads h' e.2 (.int (keyOf e)) [] ∧ RelV (.int (keyOf e)) e.2
        rw [ek, e1]
        exact ⟨.int k u, u, rfl⟩
    refine srt_end (enc := fun b : Int => PyData.int b) (f := V.int) hc hu I2 ⟨es, ep, t, ⟨o, o1, o2.1, o3⟩, ft, sm, rs, ld, .refl _⟩ (each _ g) ?_ ?_ (fun b _ => by show 0 ≤ 60; omega) (by rw [List.length_map, Array.length_toList]; exact Nat.lt_of_lt_of_le sm (by decide)) fun ds p pm pw hp => ?_
    · intro d hd d' hd'
      obtain ⟨i, _, rfl⟩ := List.mem_map.mp hd
      obtain ⟨j, _, rfl⟩ := List.mem_map.mp hd'
      rfl
    · refine .inr fun d hd => ?_
      obtain ⟨i, _, rfl⟩ := List.mem_map.mp hd
      exact ⟨fun h => (nomatch h), fun xs h => (nomatch h)⟩
    · refine q ds p (lt_of_le_nodup ds (pw.imp fun {x y} h => ?_) (pm.nodup_iff.mpr nd)) (fun k => ?_) hp
      · rw [PySem.W.dataLe_int (fun b : Int => b)] at h
        exact of_decide_eq_true h
      · rw [pm.mem_iff, ← mem k, decide_eq_true_eq]

/-! ### texts, none twice -/
def rSrtS (K : PySem.W.Frag) : V → Hp → VK → Prop := fun x H Q => ∃ (l : Addr) (ss : List Str), x = .ref l ∧ SqL K H l (ss.map V.str) ∧ ss.Nodup ∧ ss.length < 60 ∧
  ∀ (zs : List Str) (p : Addr), zs.Perm ss → zs.Pairwise (fun a b => ltS a b = true) → H p = none → Q (.ref p) (upd H p (.lst (zs.map V.str)))
theorem perm_take {vs : List Value} {es es' : List (Int × Value)} {v : Value} {h : Int} {i : Nat} (p : (es.map (·.2)).Perm (vs.take i)) (q : es'.Perm ((h, v) :: es)) (e : vs[i]? = some v) : (es'.map (·.2)).Perm (vs.take (i + 1)) := by
  rw [List.take_add_one, e]
  refine (q.map (·.2)).trans ?_
  exact (p.cons v).trans (List.perm_append_singleton _ _).symm
def JS (w : World) (a : Addr) (its : List Value) (i : Nat) (h : Heap) : Prop := ∃ (es : Array (Int × Value)) (t : SetTable), Txts w h a es t ∧ (es.toList.map (·.2)).Perm (its.take i)
theorem srtS (hc : X.calm = true) (hu : X.A.units + 65 < cLine) : SrtR X (rSrtS X.K) := by
  intro pins s σ H x v Q I rx h
  obtain ⟨l, ss, rfl, hl, nd, few, q⟩ := h
  cases rx
  obtain ⟨its, rv, pl, z⟩ := I.list hl
  have li : its.length = ss.length := by rw [← rv.length, List.length_map]
  have val : ∀ (i : Nat) (v : Value), its[i]? = some v → ∃ (hi : i < ss.length) (t : Tok), v = .str ss[i] t := fun i v hv => by
    have hi : i < ss.length := by rw [← li]; exact (List.getElem?_eq_some_iff.mp hv).1
    obtain ⟨w', hw, tk, ew⟩ := rv.get (i := i) (x := .str ss[i]) (by simp [hi])
    rw [hv] at hw
    cases hw
    exact ⟨hi, tk, ew⟩
  refine call_set (I.ok.hd hc) pl.isList (JS X.w s.heap.objs.size its) (fun h e _ => ⟨#[], _, ⟨⟨_, _, e, ⟨rfl, rfl, rfl⟩, rfl⟩, (fun e he => by simp at he), by decide, rfl, List.Pairwise.nil, ?_⟩, by simp⟩) (fun i h h' k _ ⟨es, t, R, p⟩ => ⟨es, t, ⟨by obtain ⟨o, ep, o1, r⟩ := R.at_; exact ⟨o, ep, k o o1, r⟩, R.ents, R.few, R.fits, R.ris, R.led⟩, p⟩) ?_ ?_
  · show _ ∨ (!X.w.params.followText "set-order") = true
    cases X.w.params.followText "set-order"
    · exact .inr rfl
    · exact .inl rfl
  · rintro B i v z Q1 E1 - hv ⟨es, t, R, p⟩ - k1
    rw [List.getElem?_toArray] at hv
    obtain ⟨hi, tk, rfl⟩ := val i v hv
    have sz : es.size ≤ i := by
      have := p.length_eq
      rw [List.length_map, Array.length_toList, List.length_take] at this
      omega
    unfold setAdd
    refine wpAny_holding (wpAny_bind ((PySem.strKind X.prog X.w).pyHash (k := ss[i]) (strKind_is _ _ _ _) ?_))
    refine add_txt (P := X.prog) (s := { z with toks := z.toks + 1 }) R (by omega) (fun e he => ?_) fun b h' es' t' sb R2 pm => k1 b h' _ sb (Nat.le_succ _) ⟨es', t', R2, perm_take p pm hv⟩
    have hm := p.mem_iff.mp (List.mem_map.mpr ⟨e, he, rfl⟩)
    obtain ⟨j, hj, ej⟩ := List.getElem_of_mem hm
    rw [List.length_take] at hj
    have ej' : its[j]? = some e.2 := by
      rw [List.getElem_take] at ej
      rw [List.getElem?_eq_getElem (by omega), ej]
    obtain ⟨hj', tj, e2⟩ := val j e.2 ej'
    rw [e2]
    show (ss[j] == ss[i]) = false
    refine beq_eq_false_iff_ne.mpr fun h => ?_
    exact List.pairwise_iff_getElem.mp nd j i hj' hi (by omega) h
  · rintro h' tk ⟨es, t, R, p⟩ ext
    rw [show its.toArray.size = its.length from List.size_toArray .., List.take_of_length_le (Nat.le_refl _)] at p
    obtain ⟨o, ep, o1, o2, o3⟩ := R.at_
    have I2 : Inv X pins σ H { s with heap := h', toks := tk } := I.kept ext
    have e : EachIs (fun v (b : Str) => Reads h' v (.str b) [] ∧ RelV (.str b) v) its ss := (vals_each (f := V.str) rv).mono fun v b r => by
      obtain ⟨tk', rfl⟩ := r
      exact ⟨.str b tk', tk', rfl⟩
    refine srt_end (enc := fun b : Str => PyData.str b) (f := V.str) hc hu I2 ⟨es, ep, t, ⟨o, o1, o2.1, o3⟩, R.fits, by have := R.few; unfold scanBound; omega, R.ris, R.led, p⟩ e ?_ ?_ (fun b _ => by show 0 ≤ 60; omega) (by omega) fun ds p' pm pw hp => ?_
    · intro d hd d' hd'
      obtain ⟨i, _, rfl⟩ := List.mem_map.mp hd
      obtain ⟨j, _, rfl⟩ := List.mem_map.mp hd'
      rfl
    · refine .inr fun d hd => ?_
      obtain ⟨i, _, rfl⟩ := List.mem_map.mp hd
      exact ⟨fun h => (nomatch h), fun xs h => (nomatch h)⟩
    · refine q ds p' pm ?_ hp
      have nd2 : ds.Nodup := pm.nodup_iff.mpr nd
      refine (List.pairwise_and_iff.mpr ⟨pw, nd2⟩).imp fun {x y} h => ?_
      have h1 := h.1
      rw [PySem.W.dataLe_str (fun b : Str => b)] at h1
      rcases QB.ltS_tri x y with g | g | g
      · exact g
      · exact absurd g h.2
      · exfalso
        unfold ltS at g
        exact List.not_lt.mpr (of_decide_eq_true h1) (of_decide_eq_true g)
end
end QS
set_option Elab.async false
set_option linter.all false
set_option maxRecDepth 100000
set_option maxHeartbeats 4000000
namespace QS
open PySem PySem.Spec PyProof.Rows L2
open PySem.W (EachIs dataLe dataLt AllAlike Sortable)
open QB (Lnk)
/-! ### links, no pair twice -/
def lkey (l : Lnk) : List Key := [.inr l.a, .inr l.b, .inl l.th, .inl l.bk]
def ldat (l : Lnk) : PyData := .tuple [.str l.a, .str l.b, .int l.th, .int l.bk]
theorem lkey_ne {l m : Lnk} (h : l.ab ≠ m.ab) : lkey l ≠ lkey m := fun e => h (by
  unfold lkey at e
  simp only [List.cons.injEq, Sum.inr.injEq] at e
  show (l.a, l.b) = (m.a, m.b)
  rw [e.1, e.2.1])
theorem ldat_lt {l m : Lnk} (h : l.ab ≠ m.ab) : dataLt (ldat l) (ldat m) = QB.ltP l.ab m.ab := by
  unfold ldat
  rw [PySem.W.dataLt_tuple, PySem.W.dataLt_cons (by simp [PySem.W.alike]), PySem.W.dataLt_cons (by simp [PySem.W.alike])]
  unfold QB.ltP Lnk.ab
  by_cases c : l.a = m.a
  · have d : l.b ≠ m.b := fun e => h (by show (l.a, l.b) = (m.a, m.b); rw [c, e])
    have e1 : PyData.eqv (.str l.a) (.str m.a) = true := by simp [PyData.eqv, c]
    have e2 : ¬ PyData.eqv (.str l.b) (.str m.b) = true := by simp [PyData.eqv, d]
    rw [if_pos e1, if_neg e2, if_pos c, PySem.W.dataLt_str]
    rfl
  · have e1 : ¬ PyData.eqv (.str l.a) (.str m.a) = true := by simp [PyData.eqv, c]
    rw [if_neg e1, if_neg c, PySem.W.dataLt_str]
    rfl
theorem ltP_tri (p q : Str × Str) : QB.ltP p q = true ∨ p = q ∨ QB.ltP q p = true := by
  obtain ⟨a, b⟩ := p
  obtain ⟨c, d⟩ := q
  unfold QB.ltP
  simp only
  by_cases e : a = c
  · subst e
    rw [if_pos rfl, if_pos rfl]
    rcases QB.ltS_tri b d with h | h | h
    · exact .inl h
    · exact .inr (.inl (by rw [h]))
    · exact .inr (.inr h)
  · rw [if_neg e, if_neg (Ne.symm e)]
    rcases QB.ltS_tri a c with h | h | h
    · exact .inl h
    · exact absurd h e
    · exact .inr (.inr h)
def rSrtT (K : PySem.W.Frag) : V → Hp → VK → Prop := fun x H Q => ∃ (l : Addr) (ls : List (Addr × Lnk)), x = .ref l ∧ SqL K H l (ls.map fun e => V.ref e.1) ∧ (∀ e ∈ ls, H e.1 = some (.tup [.str e.2.a, .str e.2.b, .int e.2.th, .int e.2.bk])) ∧ (ls.map fun e => e.2.ab).Nodup ∧ ls.length < 60 ∧
  ∀ (zs : List (Addr × Lnk)) (p : Addr), zs.Perm ls → zs.Pairwise (fun (a b : Addr × Lnk) => QB.ltP a.2.ab b.2.ab = true) → H p = none → Q (.ref p) (upd H p (.lst (zs.map fun e => V.ref e.1)))
/-- the table, its rows' tuples told by the heap at the start -/
structure JT (P : Program) (w : World) (h0 : Heap) (a : Addr) (its : List Value) (i : Nat) (h : Heap) : Prop where
  ex : ∃ (es : Array (Int × Value)) (t : SetTable), (∃ o ep, h.get? a = some o ∧ o.ExactSet ∧ o.data = .set es ep t) ∧ TabOk t (es.toList.map (·.1)) ∧ (w.params.followText "set-order" = true ∨ t.led = true) ∧ es.size * 5 < t.mask * 3 ∧ es.size < 64 ∧
    (∀ e ∈ es.toList, ∃ k c, e = (hk P w k, Value.ref c) ∧ TKey P w h0 k c) ∧ (es.toList.map (·.2)).Perm (its.take i)
section
variable {X : Cx}
theorem refs_each : ∀ {ls : List (Addr × Lnk)} {us : List Value}, Vals (ls.map fun e => V.ref e.1) us → us = ls.map fun e => Value.ref e.1
  | [], _, .nil => rfl
  | e :: ls, _, .cons r t => by
    cases r
    rw [refs_each t]; rfl
theorem srtT (hc : X.calm = true) (hu : X.A.units + 65 < cLine) : SrtR X (rSrtT X.K) := by
  intro pins s σ H x v Q I rx h
  obtain ⟨l, ls, rfl, hl, tup, nd, few, q⟩ := h
  cases rx
  obtain ⟨its, rv, pl, z⟩ := I.list hl
  have li : its.length = ls.length := by rw [← rv.length, List.length_map]
  have eits := refs_each rv
  have key : ∀ e ∈ ls, TKey X.prog X.w s.heap (lkey e.2) e.1 := fun e he => key_of (ks := lkey e.2) I.hok (tup e he)
  have val : ∀ (i : Nat) (v : Value), its[i]? = some v → ∃ hi : i < ls.length, v = .ref ls[i].1 := fun i v hv => by
    have hi : i < ls.length := by rw [← li]; exact (List.getElem?_eq_some_iff.mp hv).1
    rw [eits, List.getElem?_map, List.getElem?_eq_getElem hi] at hv
    exact ⟨hi, (Option.some.inj hv).symm⟩
  refine call_set (I.ok.hd hc) pl.isList (JT X.prog X.w s.heap s.heap.objs.size its) (fun h e _ => ⟨#[], _, ⟨_, _, e, ⟨rfl, rfl, rfl⟩, rfl⟩, ⟨List.Pairwise.nil, rfl, rfl, .inl rfl, (fun x hx => by cases hx), fun i h j hi => by simp at hi⟩, ?_, (by show 0 * 5 < 7 * 3; decide), by decide, (fun e he => by simp at he), by simp⟩)
    (fun i h h' k _ ⟨es, t, ⟨o, ep, o1, r⟩, r2⟩ => ⟨es, t, ⟨o, ep, k o o1, r⟩, r2⟩) ?_ ?_
  · show _ ∨ (!X.w.params.followText "set-order") = true
    cases X.w.params.followText "set-order"
    · exact .inr rfl
    · exact .inl rfl
  · rintro B i v z Q1 E1 hB hv ⟨es, t, at_, tb, ld, room, f64, en, p⟩ ext k1
    rw [List.getElem?_toArray] at hv
    obtain ⟨hi, rfl⟩ := val i v hv
    have sz : es.size ≤ i := by
      have := p.length_eq
      rw [List.length_map, Array.length_toList, List.length_take] at this
      omega
    have xk : TKey X.prog X.w z.heap (lkey ls[i].2) ls[i].1 := key_ext (key ls[i] (List.getElem_mem hi)) ext
    have xB : B.units < cLine := by omega
    unfold setAdd
    refine wpAny_holding (wpAny_bind (wpAny_pyHash_tuple xB xk ?_))
    have R : Tab X.prog X.w z.heap s.heap.objs.size es t := ⟨at_, tb, ld, room, f64, fun e he => by
      obtain ⟨k, c, e1, e2⟩ := en e he
      exact ⟨k, c, e1, key_ext e2 ext⟩⟩
    refine add_new (s := { z with toks := z.toks + ((lkey ls[i].2).length + 1) }) R xk xB (by omega) (fun e he k' c' e1 e2 => ?_) fun b h' es' t' sb R2 pm => k1 b h' _ sb (Nat.le_add_right _ _) ⟨es', t', R2.at_, R2.tab, R2.led, R2.room, R2.few, fun e he => ?_, perm_take p pm hv⟩
    · have hm := p.mem_iff.mp (List.mem_map.mpr ⟨e, he, rfl⟩)
      obtain ⟨j, hj, ej⟩ := List.getElem_of_mem hm
      rw [List.length_take] at hj
      have ej' : its[j]? = some e.2 := by
        rw [List.getElem_take] at ej
        rw [List.getElem?_eq_getElem (by omega), ej]
      obtain ⟨hj', e3⟩ := val j e.2 ej'
      have e4 : e.2 = .ref c' := by rw [e1]
      rw [e4] at e3
      injection e3 with e3
      subst e3
      have kj : TKey X.prog X.w z.heap (lkey ls[j].2) ls[j].1 := key_ext (key ls[j] (List.getElem_mem hj')) ext
      rw [show k' = lkey ls[j].2 from e2.inj kj]
      refine lkey_ne ?_
      have := List.pairwise_iff_getElem.mp nd j i (by simpa using hj') (by simpa using hi) (by omega)
      simpa using this
    · rcases List.mem_cons.mp (pm.mem_iff.mp he) with rfl | he
      · exact ⟨_, _, rfl, key ls[i] (List.getElem_mem hi)⟩
      · exact en e he
  · rintro h' tk ⟨es, t, ⟨o, ep, o1, o2, o3⟩, tb, ld, room, f64, en, p⟩ ext
    rw [show its.toArray.size = its.length from List.size_toArray .., List.take_of_length_le (Nat.le_refl _)] at p
    have I2 : Inv X pins σ H { s with heap := h', toks := tk } := I.kept ext
    have zsz : t.place.size = es.size := by
      have := tb.sz
      simpa using this
    have ft : t.fits es.size = true := fits_of zsz tb.dm (by omega)
    have e : EachIs (fun v (b : Addr × Lnk) => Reads h' v (ldat b.2) [] ∧ RelV (.ref b.1) v) its ls := by
      rw [eits]
      have go : ∀ L : List (Addr × Lnk), (∀ e ∈ L, e ∈ ls) → EachIs (fun v (b : Addr × Lnk) => Reads h' v (ldat b.2) [] ∧ RelV (.ref b.1) v) (L.map fun e => Value.ref e.1) L := by
        intro L
        induction L with
        | nil => exact fun _ => .nil
        | cons b L ih => exact fun hL => .cons ⟨reads_tup (key_ext (key b (hL b (by simp))) ext), rfl⟩ (ih fun e he => hL e (by simp [he]))
      exact go ls fun _ h => h
    refine srt_end (enc := fun b : Addr × Lnk => ldat b.2) (f := fun e => V.ref e.1) hc hu I2 ⟨es, ep, t, ⟨o, o1, o2.1, o3⟩, ft, by unfold scanBound; omega, tb.ris, ld, p⟩ e ?_ ?_ (fun b _ => by show (ldat b.2).depth ≤ 60; unfold ldat; simp [PyData.depth, PyData.depthAll]) (by omega) fun ds p' pm pw hp => ?_
    · intro d hd d' hd'
      obtain ⟨i, _, rfl⟩ := List.mem_map.mp hd
      obtain ⟨j, _, rfl⟩ := List.mem_map.mp hd'
      rfl
    · refine .inl fun d hd => ?_
      obtain ⟨i, _, rfl⟩ := List.mem_map.mp hd
      exact ⟨_, _, rfl⟩
    · refine q ds p' pm ?_ hp
      have nd2 : (ds.map fun e => e.2.ab).Nodup := (pm.map _).nodup_iff.mpr nd
      refine (List.pairwise_and_iff.mpr ⟨pw, List.pairwise_map.mp nd2⟩).imp fun {x y} h => ?_
      have h1 : (!dataLt (ldat y.2) (ldat x.2)) = true := h.1
      rw [ldat_lt (Ne.symm h.2)] at h1
      rcases ltP_tri x.2.ab y.2.ab with g | g | g
      · exact g
      · exact absurd g h.2
      · rw [g] at h1; cases h1
end
end QS
set_option Elab.async false
set_option linter.all false
set_option maxRecDepth 100000
set_option maxHeartbeats 4000000
namespace QB
open PySem PySem.Spec L2
open QS (SrtR tSrt rSrtI rSrtS rSrtT srtI srtS srtT)
open PyProof.Rows (envOfC)
open PySem.PyData (strOk)
section
variable {X : Cx} {K : PySem.W.Frag}
theorem ki_srtI (hc : X.calm = true) (hu : X.A.units + 65 < cLine) (hK : X.K = K := by rfl) : SrtR X (rSrtI K) := by subst hK; exact srtI hc hu
theorem ki_srtS (hc : X.calm = true) (hu : X.A.units + 65 < cLine) (hK : X.K = K := by rfl) : SrtR X (rSrtS K) := by subst hK; exact srtS hc hu
theorem ki_srtT (hc : X.calm = true) (hu : X.A.units + 65 < cLine) (hK : X.K = K := by rfl) : SrtR X (rSrtT K) := by subst hK; exact srtT hc hu
end
section
variable {K : PySem.W.Frag} {σ : L2.St} {H : Hp} {Q : VK} {ta : TE}
theorem a_srt {r : V → Hp → VK → Prop} (h : ta σ H fun x H1 => r x H1 Q) : tSrt r ta σ H Q := h
theorem a_srtI {l : Addr} {ns : List Int} (h : H l = some (.lst (ns.map V.int))) (few : ns.length < 4000) (q : ∀ (zs : List Int) (p : Addr) (H' : Hp), zs.Pairwise (· < ·) → (∀ k, k ∈ zs ↔ k ∈ ns) → H p = none → Same H H' → H' p = some (.lst (zs.map V.int)) → Q (.ref p) H') : rSrtI K (.ref l) H Q :=
  ⟨l, ns, rfl, SqL.of h, few, fun zs p h1 h2 hp => q zs p _ h1 h2 hp (same_new hp) upd_same⟩
theorem a_srtS {l : Addr} {ss : List Str} (h : H l = some (.lst (ss.map V.str))) (nd : ss.Nodup) (few : ss.length < 60) (q : ∀ (zs : List Str) (p : Addr) (H' : Hp), zs.Perm ss → zs.Pairwise (fun a b => ltS a b = true) → H p = none → Same H H' → H' p = some (.lst (zs.map V.str)) → Q (.ref p) H') : rSrtS K (.ref l) H Q :=
  ⟨l, ss, rfl, SqL.of h, nd, few, fun zs p h1 h2 hp => q zs p _ h1 h2 hp (same_new hp) upd_same⟩
theorem links_addr {H : Hp} : ∀ {vs : List V} {ls : List Lnk}, LinksAt H vs ls → ∃ es : List (Addr × Lnk), vs = es.map (fun e => V.ref e.1) ∧ ls = es.map (·.2) ∧ ∀ e ∈ es, H e.1 = some (.tup [.str e.2.a, .str e.2.b, .int e.2.th, .int e.2.bk])
  | _, _, .nil => ⟨[], rfl, rfl, fun _ h => nomatch h⟩
  | _, _, .cons ⟨t, e1, e2⟩ r => by
    obtain ⟨es, h1, h2, h3⟩ := links_addr r
    refine ⟨(t, _) :: es, by rw [e1, h1]; rfl, by rw [h2]; rfl, fun e he => ?_⟩
    rcases List.mem_cons.mp he with rfl | he
    · exact e2
    · exact h3 e he
theorem addr_links {H : Hp} : ∀ (es : List (Addr × Lnk)), (∀ e ∈ es, H e.1 = some (.tup [.str e.2.a, .str e.2.b, .int e.2.th, .int e.2.bk])) → LinksAt H (es.map fun e => V.ref e.1) (es.map (·.2))
  | [], _ => .nil
  | e :: es, h => .cons ⟨e.1, rfl, h e (by simp)⟩ (addr_links es fun e he => h e (by simp [he]))
/-- sorted(set(links)) -/
theorem a_srtT {l : Addr} {vs : List V} {ls : List Lnk} (h : H l = some (.lst vs)) (hl : LinksAt H vs ls) (nd : (ls.map Lnk.ab).Nodup) (few : ls.length < 60)
    (q : ∀ (ws : List V) (ms : List Lnk) (p : Addr) (H' : Hp), ms.Perm ls → (ms.map Lnk.ab).Pairwise (fun a b => ltP a b = true) → H p = none → Same H H' → H' p = some (.lst ws) → LinksAt H' ws ms → Q (.ref p) H') : rSrtT K (.ref l) H Q := by
  obtain ⟨es, rfl, rfl, h3⟩ := links_addr hl
  refine ⟨l, es, rfl, SqL.of h, h3, by rwa [List.map_map] at nd, by simpa using few, fun zs p h1 h2 hp => ?_⟩
  have s := same_new (o := .lst (zs.map fun e => V.ref e.1)) hp
  exact q _ (zs.map (·.2)) p _ (h1.map _) (by rw [List.map_map]; exact List.pairwise_map.mpr h2) hp s upd_same (addr_links zs fun e he => s _ _ (h3 e (h1.mem_iff.mp he)))
end
/-! ### the links without a pair -/
theorem lc_kept {K : PySem.W.Frag} {i ia ib : Nat} {vs : List Nat} {σ : L2.St} {H : Hp} {D la : Addr} {ws : List V} {ls : List Lnk} {a b : Str} {Q : VK} (hla : H la = some (.tup ws)) (hls : LinksAt H ws ls) (few : ls.length ≤ 100) (oks : ∀ l ∈ ls, strOk l.a = true ∧ strOk l.b = true) (oa : strOk a = true) (ob : strOk b = true) (nD : H D = none)
    (v1 : ∀ v, ((wipe σ vs).set i (some v))[i]? = some (some v)) (v2 : ∀ v, ((wipe σ vs).set i (some v))[ia]? = some (some (.str a))) (v3 : ∀ v, ((wipe σ vs).set i (some v))[ib]? = some (some (.str b))) (v4 : ∀ v, wipe ((wipe σ vs).set i (some v)) vs = wipe σ vs)
    (q : ∀ acc H', Same H H' → H' D = some (.lst acc) → LinksAt H' acc (less ls a b) → Q (.ref D) H') :
    LcW (Itt K la) (gName i) (tTest (tOp (rNeD K) (tSl (rSlA K) (tVar i) tNoPart (tPart (tC (.int 2)))) (tTup (tCons (tVar ia) (tCons (tVar ib) tNil))))) (tVar i) vs σ H D Q := by
  have hlen := hls.length
  have stR : ∀ i acc H H', Tsm H H' → LinksAt H acc (less (ls.take i) a b) → LinksAt H' acc (less (ls.take i) a b) := fun i acc H H' s r => r.ts s
  refine lc_go (it_tup hla) (Same.refl H) nD (fun i acc H => LinksAt H acc (less (ls.take i) a b)) .nil (fun i acc H H' s r => r.ts s) ?_ ?_
  · rintro j acc H2 x hj sF hD lc r hx
    obtain ⟨y, e1, t, rfl, ht⟩ := paired_get hls hx
    obtain ⟨y1, y2⟩ := oks y (List.mem_of_getElem? e1)
    have ht2 := sF _ _ ht
    refine ⟨v4 _, ?_⟩
    refine ⟨_, v1 _, 2, rfl, ?_⟩
    refine a_slT ht2 fun p H3 s3 h3 => ?_
    refine ⟨_, v2 _, _, v3 _, ?_⟩
    refine ⟨by show 2 ≤ sizeLine; decide, nw2 fun t4 H4 n4 s4 h4 => ?_⟩
    have s5 := s3.trans s4
    have oks' : ∀ z ∈ [y.a, y.b], strOk z = true := fun z hz => by
      rcases List.mem_cons.mp hz with rfl | hz
      · exact y1
      · rw [List.mem_singleton.mp hz]; exact y2
    have oks2 : ∀ z ∈ [a, b], strOk z = true := fun z hz => by
      rcases List.mem_cons.mp hz with rfl | hz
      · exact oa
      · rw [List.mem_singleton.mp hz]; exact ob
    refine a_neT (xs := [y.a, y.b]) (ys := [a, b]) (s4 _ _ h3) h4 oks' oks2 ?_
    refine a_bl ?_
    refine iteDN (fun c => ?_) (fun c => ?_)
    · refine ⟨_, v1 _, ?_⟩
      refine lc_put (by omega) nD stR (sF.trans s5) (s5 _ _ hD) lc ?_
      rw [List.take_succ, e1]
      show LinksAt H4 _ (less (ls.take j ++ [y]) a b)
      rw [less_snoc, if_neg c]
      exact (r.ts (tsS s5)).snoc ⟨t, rfl, s5 _ _ ht2⟩
    · refine lc_skip (sF.trans s5) (s5 _ _ hD) lc ?_
      rw [List.take_succ, e1]
      show LinksAt H4 _ (less (ls.take j ++ [y]) a b)
      rw [less_snoc, if_pos c, List.append_nil]
      exact r.ts (tsS s5)
  · intro acc H2 sF hD lc r
    rw [List.take_of_length_le (by omega)] at r
    exact q acc H2 sF hD r
/-- a link more, sorted in -/
theorem with_ok {R : List Str} {ls ms : List Lnk} {l : Lnk} (ok : LinksOk R ls) (ol : LinkOk R l) (few : (less ls l.a l.b).length < 16) (pm : ms.Perm (less ls l.a l.b ++ [l])) (pw : (ms.map Lnk.ab).Pairwise (fun a b => ltP a b = true)) : LinksOk R ms ∧ WithL ls ms l := by
  have hm : ∀ k, k ∈ ms ↔ k = l ∨ k ∈ less ls l.a l.b := fun k => by
    rw [pm.mem_iff, List.mem_append, List.mem_singleton]
    exact Or.comm
  refine ⟨⟨?_, fun k hk => ?_, pair_asc pw⟩, ⟨hm⟩⟩
  · have := pm.length_eq
    rw [List.length_append, List.length_singleton] at this
    omega
  · rcases (hm k).mp hk with rfl | hk
    · exact ol
    · exact ok.each k (less_mem.mp hk).1
theorem with_nd {R : List Str} {ls : List Lnk} {l : Lnk} (ok : LinksOk R ls) : ((less ls l.a l.b ++ [l]).map Lnk.ab).Nodup := by
  rw [List.map_append]
  refine List.nodup_append.mpr ⟨(sub_links ok (less_sub ls l.a l.b)).nd, by simp, fun x hx y hy => ?_⟩
  rw [List.map_singleton, List.mem_singleton] at hy
  subst hy
  rintro rfl
  obtain ⟨k, hk, e⟩ := List.mem_map.mp hx
  exact (less_mem.mp hk).2 e
end QB
set_option Elab.async false
set_option linter.all false
set_option maxRecDepth 100000
set_option maxHeartbeats 4000000
namespace QB
open PySem PySem.Spec L2
open PyProof.Rows (envOfC)
open PySem.PyData (strOk)
theorem putF_new {f : Str} {y : V} : ∀ {fs : List (Str × V)}, f ∉ fs.map (·.1) → putF f y fs = fs ++ [(f, y)]
  | [], _ => rfl
  | (g, x) :: fs, h => by
    have h1 : ¬ g = f := fun e => h (by simp [e])
    have h2 : f ∉ fs.map (·.1) := fun e => h (by simp [e])
    show (if g = f then _ else (g, x) :: putF f y fs) = _
    rw [if_neg h1, putF_new h2]
    rfl
/-- what stands apart from one object -/
def But (c : Addr) (H H' : Hp) : Prop := ∀ b o, b ≠ c → H b = some o → H' b = some o
theorem But.refl {c : Addr} {H : Hp} : But c H H := fun _ _ _ h => h
theorem But.same {c : Addr} {H H1 H2 : Hp} (h : But c H H1) (s : Same H1 H2) : But c H H2 := fun b o hb e => s _ _ (h b o hb e)
theorem But.trans {c : Addr} {H H1 H2 : Hp} (h : But c H H1) (s : But c H1 H2) : But c H H2 := fun b o hb e => s _ _ hb (h b o hb e)
theorem But.ins {c C dx b : Addr} {fs : List (Str × V)} {H H1 : Hp} {xs : List V} (h : But c H H1) (e : H c = some (.ins C dx fs)) (g : H b = some (.tup xs)) : H1 b = some (.tup xs) := h b _ (by rintro rfl; rw [e] at g; cases g) g
theorem a_putB {D : L2.St → Hp → Prop} {σ : L2.St} {K : PySem.W.Frag} {H : Hp} {a C dx : Addr} {f : Str} {y : V} {fs : List (Str × V)} (gs : List (Str × V)) (h : H a = some (.ins C dx fs)) (c : Cls K C) (n : NoAttr K C f) (l : fs.length < 1000) (e : putF f y fs = gs)
    (q : ∀ H', H' a = some (.ins C dx gs) → But a H H' → D σ H') : ∃ a' C dx fs, V.ref a = .ref a' ∧ H a' = some (.ins C dx fs) ∧ Cls K C ∧ NoAttr K C f ∧ fs.length < 1000 ∧ D σ (upd H a' (.ins C dx (putF f y fs))) :=
  ⟨a, C, dx, fs, rfl, h, c, n, l, by rw [e]; exact q _ upd_same fun b o hb g => by rw [upd_ne hb]; exact g⟩
/-! ### a dict made by a comprehension -/
def DcN (F : Hp) (D : Addr) (R : Nat → List (Key × V) → Hp → Prop) (i : Nat) (H : Hp) : Prop := ∃ kvs, Same F H ∧ H D = some (.dK kvs) ∧ R i kvs H
def DcW (J : It) (g : TG) (tt : TT) (tk tv : TE) (vs : List Nat) (σ : L2.St) (H1 : Hp) (D : Addr) (Q : VK) : Prop := ∃ W : Nat → Nat → Hp → Prop, (∃ m, W 0 m (upd H1 D (.dK []))) ∧ ∀ i m H, W i m H →
  (J.stop i H ∧ Q (.ref D) H) ∨ (J.go i H ∧ ∃ Nx : Hp → Prop, (∀ H', Nx H' → ∃ m', m' < m ∧ W (i + 1) m' H') ∧ ∀ x H', J.yld i H x H' → g x (wipe σ vs) H' fun σ2 H2 => wipe σ2 vs = wipe σ vs ∧ tt σ2 H2 fun b H3 =>
    if b = true then tk σ2 H3 fun y H4 => tv σ2 H4 fun z H5 => ∃ kvs k, y = kV k ∧ H5 D = some (.dK kvs) ∧ kvs.length < sizeLine ∧ Nx (upd H5 D (.dK (putK kvs k z))) else Nx H3)
theorem a_dc {wi : TI} {g : TG} {tt : TT} {tk tv : TE} {vs : List Nat} {σ : L2.St} {H : Hp} {Q : VK} (h : wi σ H fun J H1 => ∀ D, H1 D = none → DcW J g tt tk tv vs σ H1 D Q) : tDc wi g tt tk tv vs σ H Q := h
theorem dc_go {J : It} {F : Hp} {n : Nat} {Y : Nat → V → Hp → Prop} {g : TG} {tt : TT} {tk tv : TE} {vs : List Nat} {σ : L2.St} {D : Addr} {Q : VK} {H1 : Hp} (ok : ItOk J F n Y) (hF : Same F H1) (hD : H1 D = Option.none) (R : Nat → List (Key × V) → Hp → Prop) (h0 : R 0 [] H1)
    (st : ∀ i kvs H H', (∀ b o, b ≠ D → H b = some o → H' b = some o) → R i kvs H → R i kvs H')
    (turn : ∀ i kvs H x, i < n → Same F H → H D = some (.dK kvs) → R i kvs H → Y i x H → g x (wipe σ vs) H fun σ2 H2 => wipe σ2 vs = wipe σ vs ∧ tt σ2 H2 fun b H3 =>
      if b = true then tk σ2 H3 fun y H4 => tv σ2 H4 fun z H5 => ∃ kvs k, y = kV k ∧ H5 D = some (.dK kvs) ∧ kvs.length < sizeLine ∧ DcN F D R (i + 1) (upd H5 D (.dK (putK kvs k z))) else DcN F D R (i + 1) H3)
    (done : ∀ kvs H, Same F H → H D = some (.dK kvs) → R n kvs H → Q (.ref D) H) : DcW J g tt tk tv vs σ H1 D Q := by
  refine ⟨fun i m H => m = n - i ∧ i ≤ n ∧ DcN F D R i H, ⟨n, by simp, Nat.zero_le _, [], fun b u e => ?_, upd_same, st _ _ _ _ (fun b o hb e => by rw [upd_ne hb]; exact e) h0⟩, ?_⟩
  · rw [upd_ne (ne_of_none (hF _ _ e) hD)]; exact hF _ _ e
  · rintro i m H ⟨rfl, hi, kvs, s, h, r⟩
    by_cases hlt : i < n
    · refine .inr ⟨ok.go i H s hlt, DcN F D R (i + 1), fun H' p' => ⟨n - (i + 1), by omega, rfl, hlt, p'⟩, fun x H' y => ?_⟩
      obtain ⟨s', y'⟩ := ok.yld i H x H' s hlt y
      exact turn i kvs H' x hlt (s.trans s') (s' _ _ h) (st _ _ _ _ (fun b o _ e => s' b o e) r) y'
    · have e : i = n := by omega
      subst e
      exact .inl ⟨ok.stop H s, done kvs H s h r⟩
end QB
set_option Elab.async false
set_option linter.all false
set_option maxRecDepth 100000
set_option maxHeartbeats 4000000
namespace QB
open PySem PySem.Spec L2
open PyProof.Rows (envOfC)
open PySem.PyData (strOk)
/-- ** of any two ints whose power is not too great -/
def CPowW (i j : Int) : Prop := 0 ≤ j ∧ (Builtin.Int.intBits i : Int) * j ≤ 2 ^ 27
theorem op_powW {X : Cx} : OpR X (binaryOp .Pow) (rI CPowW fun i j => .int (i ^ j.toNat)) := opI fun _ _ _ _ _ _ _ hc q => PyProof.Rows.pow_int hc.1 hc.2 q
theorem pow3 {i : Int} (h0 : 0 ≤ i) (h : i < 2 ^ 90) : CPowW i 3 := by
  refine ⟨by decide, ?_⟩
  have hb : Builtin.Int.intBits i ≤ 91 := by
    have hl : i.natAbs.log2 < 90 := by
      by_cases z : i.natAbs = 0
      · rw [z]; decide
      · refine (Nat.log2_lt z).mpr ?_
        have e : ((2 ^ 90 : Nat) : Int) = 2 ^ 90 := by decide
        omega
    unfold Builtin.Int.intBits
    split <;> omega
  omega
theorem a_riC {C : Int → Int → Prop} {g : Int → Int → V} {i j : Int} {H : Hp} {Q : VK} (c : C i j) (h : Q (g i j) H) : rI C g (.int i) (.int j) H Q := ⟨i, j, rfl, rfl, c, h⟩
theorem a_gsub {to ti : TE} {t : TSet} {v : V} {σ : L2.St} {H : Hp} {S : L2.St → Hp → Prop} (h : to σ H fun o H1 => ti σ H1 fun i H2 => t o i v H2 fun H3 => S σ H3) : gSub to ti t v σ H S := h
theorem a_setL {p : Addr} {k : Int} {j : Nat} {v : V} {xs : List V} {H : Hp} {S : Hp → Prop} (h : H p = some (.lst xs)) (i : ixN xs.length k = some j) (q : S (upd H p (.lst (xs.set j v)))) : rSetL (.ref p) (.int k) v H S := ⟨p, xs, k, j, rfl, rfl, h, i, q⟩
theorem a_revL {K : PySem.W.Frag} {te : TE} {σ : L2.St} {H : Hp} {Q : VK} (h : te σ H fun x H1 => ∃ a xs, x = .ref a ∧ SqL K H1 a xs ∧ ∀ p, H1 p = none → Q (.ref p) (upd H1 p (.lst xs.reverse))) : tRevL K te σ H Q := h
end QB
set_option Elab.async false
set_option linter.all false
set_option maxRecDepth 100000
set_option maxHeartbeats 4000000
namespace QB
open PySem PySem.Spec L2 PyProof.Rows
/-! ### enumerate of a tuple -/
theorem meets_enumT (l : Addr) (items : Array Value) :
    Meets (Builtin.«enumerate.__new__» ⟨[.type "enumerate", .ref l], []⟩) (fun _ R s => s.heap.IsTuple l items ∧
      R (.ok (.ret (.ref (s.heap.push { cls := .type "tuple_iterator", data := .fields #[.ref l, .int 0 0] }).objs.size)))
        { s with heap := (s.heap.push { cls := .type "tuple_iterator", data := .fields #[.ref l, .int 0 0] }).push { cls := .type "enumerate", data := .fields #[.none, .bool false, .ref s.heap.objs.size, rawInt 0, .none, .none] } }) :=
  .of_wp fun prog w A R s h => by
    obtain ⟨hp, g, d, tk, os⟩ := s
    obtain ⟨hL, h⟩ := h
    have hsub := sub_enumerate
    obtain ⟨o, hl, _⟩ := id hL
    wp_walk using AutoSeq1.wpAny_loadPart' hl
    refine wpAny_stack_any fun st => wpAny_pure ?_
    split
    · rename_i c _ _ _ _ _
      cases (c == Value.type "enumerate")
      · wp_walk using AutoSeq1.wpAny_loadPart' hl, wpAny_pyIter_tuple hL
        exact ⟨_, rfl, h⟩
      · wp_walk using AutoSeq1.wpAny_loadPart' hl, wpAny_pyIter_tuple hL
        exact ⟨_, rfl, h⟩
    · wp_walk using AutoSeq1.wpAny_loadPart' hl, wpAny_pyIter_tuple hL
      exact ⟨_, rfl, h⟩
theorem call_enumT {prog : Program} {w : World} {A : Around} {E : Value → Shared → Prop} {s : Shared} {l : Addr} {items : Array Value} {Q : Value → Shared → Prop} (hL : s.heap.IsTuple l items)
    (h : ∀ h', IsEnum h' (s.heap.objs.size + 1) s.heap.objs.size 0 .none → h'.IsTupleIter s.heap.objs.size l 0 → h'.objs.size = s.heap.objs.size + 2 →
      (∀ b o, s.heap.get? b = some o → h'.get? b = some o) → Q (.ref (s.heap.objs.size + 1)) { s with heap := h' }) :
    wpAny (model prog w) A (call (.type "enumerate") [.ref l]) Q E s := by
  refine callType_new F.called_enumerate (by decide) (F.typeCall_enumerate_1 _) (F.newCall_enumerate_1 _) (fun obj => F.args_object_init_2 obj _) F.entry_enumerate_new
    (meets_enumT l items) ⟨hL, ?_⟩
  have hz : (s.heap.push { cls := .type "tuple_iterator", data := .fields #[.ref l, .int 0 0] }).objs.size = s.heap.objs.size + 1 := Heap.size_push ..
  show _ ∧ _
  rw [hz]
  have he : IsEnum ((s.heap.push { cls := .type "tuple_iterator", data := .fields #[.ref l, .int 0 0] }).push
      { cls := .type "enumerate", data := .fields #[.none, .bool false, .ref s.heap.objs.size, rawInt 0, .none, .none] }) (s.heap.objs.size + 1) s.heap.objs.size 0 .none := by
    have := Heap.get?_push_size (s.heap.push { cls := .type "tuple_iterator", data := .fields #[.ref l, .int 0 0] })
      (o := { cls := .type "enumerate", data := .fields #[.none, .bool false, .ref s.heap.objs.size, rawInt 0, .none, .none] }) rfl
    rw [hz] at this; exact this
  refine ⟨⟨_, he, rfl⟩, h _ he ⟨_, Heap.get?_push_of_some _ (Heap.get?_push_size _ rfl), rfl, rfl⟩ (by rw [Heap.size_push, hz]) fun b o x => Heap.get?_push_of_some _ (Heap.get?_push_of_some _ x)⟩
/-- the tuple at a, each item in a new pair with its place -/
def IteT (K : PySem.W.Frag) (a : Addr) : It :=
  ⟨fun i H => ∃ (xs : List V) (x : V), SqT K H a xs ∧ xs[i]? = some x, fun i H v H' => ∃ T x, v = .ref T ∧ H T = none ∧ H' = upd H T (.tup [.int (i : Nat), x]) ∧ ∀ xs, SqT K H a xs → xs[i]? = some x, fun i H => ∃ xs : List V, SqT K H a xs ∧ xs.length = i⟩
theorem enumT_apart {h : Heap} {a e it : Addr} {i : Nat} {k : Int} {old : Value} {items : Array Value} (he : IsEnum h e it k old) (hit : h.IsTupleIter it a i) (p : h.IsTuple a items) : a ≠ it ∧ e ∉ [it, a] ∨ e = it := by
  by_cases q : e = it
  · exact .inr q
  · refine .inl ⟨?_, ?_⟩
    · rintro rfl
      obtain ⟨o, ho, hc, _⟩ := hit
      obtain ⟨o2, ho2, hc2, _⟩ := p
      rw [ho] at ho2
      cases ho2
      have hc2 : o.cls = .type "tuple" := hc2
      rw [hc] at hc2
      revert hc2; simp
    · simp only [List.mem_cons, List.mem_nil_iff, or_false, not_or]
      refine ⟨q, ?_⟩
      rintro rfl
      obtain ⟨o2, ho2, hc2, _⟩ := p
      have he : h.get? e = _ := he
      rw [he] at ho2
      cases ho2
      have hc2 : Value.type "enumerate" = .type "tuple" := hc2
      revert hc2; simp
theorem turn_enumT {P : Program} {w : World} {K : PySem.W.Frag} {elts : List Expr} {kk : Nat} {tpos : Pos} (a e it : Addr) :
    Turn P w K (.Tuple elts kk tpos) (IteT K a) [e, it] e (fun i h => (∃ old, IsEnum h e it ((i : Nat) : Int) old) ∧ h.IsTupleIter it a i ∧ e ≠ it) where
  mem := by simp
  obj := fun i h st b hb => by
    obtain ⟨⟨old, he⟩, ⟨o, ho, hc, hd⟩, _⟩ := st
    have e' : b = e ∨ b = it := by simpa using hb
    rcases e' with z | z
    · rw [z]; exact ⟨_, he, fun v q => nomatch q⟩
    · rw [z]; exact ⟨o, ho, fun v q => by rw [hd] at q; cases q⟩
  keep := fun i h h' st k => let ⟨⟨old, he⟩, hi, hne⟩ := st; ⟨⟨old, k e (by simp) _ he⟩, hi.at fun o q => k it (by simp) o q, hne⟩
  item := by
    intro X hP hw hK hc i pins s σ H E I hf st hg
    subst hP hw hK
    obtain ⟨⟨old, he⟩, hit, hne⟩ := st
    obtain ⟨xs, x, hq, hx⟩ := hg
    obtain ⟨its, rv, p, hz⟩ := I.tuple hq
    obtain ⟨u, hu, ru⟩ := rv.get hx
    have hel : e < s.heap.objs.size := Heap.lt_size he
    have hil : it < s.heap.objs.size := by obtain ⟨_, q, _⟩ := hit; exact Heap.lt_size q
    have p' : s.heap.IsTuple a its.toArray := p
    obtain ⟨hai, hea⟩ := (enumT_apart he hit p').resolve_right hne
    have hil' : i < its.toArray.size := by
      obtain ⟨q, _⟩ := List.getElem?_eq_some_iff.mp hu
      simpa using q
    have hh : X.A.in1.handled = none := I.ok.hd hc
    refine wpAny_pyNext_enum_itemD (Draws.tuple hh it a hai its.toArray) he ⟨hit, p'⟩ hil' hne hea fun u' h' tk hu' ho hit' hT hsz hk => ?_
    have eu : u' = u := by
      have : its.toArray[i]? = some u' := hu'
      simp at this
      rw [hu] at this
      exact (Option.some.inj this).symm
    subst eu
    refine ⟨_, rfl, wpAny_letOwnedTupleGo_enum (s := { s with heap := h', toks := tk + 1 }) ho fun h'' he' sb => ?_⟩
    have hT2 : h''.get? s.heap.objs.size = some { cls := .type "tuple", data := .seq #[.int i tk, u'] } := (sb.2 _ (Nat.ne_of_gt hel)).trans hT
    have new : ObjOk X.prog X.w (upd H s.heap.objs.size (.tup [.int (i : Nat), x])) h'' s.heap.objs.size (.tup [.int (i : Nat), x]) :=
      ⟨by show 2 ≤ sizeLine; decide, [.int i tk, u'], .cons ⟨_, rfl⟩ (.cons ru .nil), ⟨_, hT2, rfl, _, rfl⟩⟩
    have I1 : Inv X pins σ (upd H s.heap.objs.size (.tup [.int (i : Nat), x])) { s with heap := h'', toks := tk + 1 } :=
      I.turnedNew (ch := [e, it]) (fun b ob hb q => (sb.2 b (fun z => hb (by simp [z]))).trans (hk b ob (fun z => hb (by simp [z])) (fun z => hb (by simp [z])) q)) hf (Nat.le_refl _) new
    refine ⟨.ref s.heap.objs.size, _, I1, rfl, ⟨_, x, rfl, I.hok.fresh (Nat.le_refl _), rfl, fun ys hy => by rw [I.tuple_inj hy hq]; exact hx⟩, ⟨⟨u', ?_⟩, hit'.1.at fun o q => (sb.2 it (Ne.symm hne)).trans q, hne⟩, fun b hb => ?_⟩
    · have e1 : ((i + 1 : Nat) : Int) = (i : Int) + 1 := by omega
      rw [e1]; exact he'
    · have hb' : b < s.heap.objs.size := by
        have e' : b = e ∨ b = it := by simpa using hb
        rcases e' with z | z
        · rw [z]; exact hel
        · rw [z]; exact hil
      rw [upd_ne (Nat.ne_of_lt hb')]
      exact (hf b hb).1
  done := by
    intro X hP hw hK hc i pins s σ H E I hf st hg
    subst hP hw hK
    obtain ⟨⟨old, he⟩, hit, hne⟩ := st
    obtain ⟨xs, hq, hx⟩ := hg
    obtain ⟨its, rv, p, hz⟩ := I.tuple hq
    obtain ⟨f0, f1, f2, f3, f4, f5⟩ := hf it (by simp)
    have hl := rv.length
    have p' : s.heap.IsTuple a its.toArray := p
    have e1 : its.toArray.size = i := by simp; omega
    have hh : X.A.in1.handled = none := I.ok.hd hc
    have hai := ((enumT_apart he hit p').resolve_right hne).1
    have hst : s.heap.IsTupleIter it a its.toArray.size ∧ s.heap.IsTuple a its.toArray := by rw [e1]; exact ⟨hit, p'⟩
    exact wpAny_pyNext_enum_endD (Draws.tuple hh it a hai its.toArray) he hst fun h' eb => ⟨rfl, I.turned (t' := s.toks) (fun b o hb q => eb b o hb q) f0 f1 f3 f4 f5⟩
  self := fun A i s Q E st h => let ⟨⟨_, he⟩, _⟩ := st; wpAny_pyIter_enum he h
def iEnumT (K : PySem.W.Frag) (ta : TA) : TI := fun σ H R => ta σ H fun vs H1 => ∃ a xs, vs = [.ref a] ∧ SqT K H1 a xs ∧ R (IteT K a) H1
theorem pi_enumT {X : Cx} {e : Expr} {ta : TA} {p pos tpos : Pos} {elts : List Expr} {kk : Nat} (hg : Gl X "enumerate") (hm : X.mg "enumerate" = none) (ha : PA X [e] ta) (hs : starEach [e] X.env = [(false, eval e X.env)] := by rfl) :
    PI X (.Tuple elts kk tpos) (.Call (.Name "enumerate" p) [e] [] pos) (iEnumT X.K ta) := by
  refine ⟨fun pins s σ H R I h => ?_⟩
  refine Call_ (ld_blt I hg hm boot_enumerate (PyProof.Rows.callWith_type1 (thn (ha.run pos pins s σ H _ I h) fun us s1 ⟨vs, H1, I1, r1, q1⟩ => ?_) hs rfl))
  obtain ⟨a, xs, ex, hq, q⟩ := q1
  subst ex
  cases r1 with
  | cons r rr =>
    cases rr
    cases r
    obtain ⟨its, rv, p', hz⟩ := I1.tuple hq
    have p2 : s1.heap.IsTuple a its.toArray := p'
    refine call_enumT p2 fun h' he hit hsz hk => wpAny_pyIter_enum he ?_
    have I2 : Inv X pins σ H1 { s1 with heap := h' } := I1.kept (t' := s1.toks) hk
    refine ⟨s1.heap.objs.size + 1, [s1.heap.objs.size + 1, s1.heap.objs.size], _, _, H1, rfl, I2, turn_enumT a (s1.heap.objs.size + 1) s1.heap.objs.size, ⟨⟨.none, he⟩, hit, Nat.succ_ne_self _⟩, fun b hb => ?_, q⟩
    have e' : b = s1.heap.objs.size + 1 ∨ b = s1.heap.objs.size := by simpa using hb
    have hle : s1.heap.objs.size ≤ b := by
      rcases e' with z | z
      · rw [z]; exact Nat.le_add_right _ _
      · rw [z]; exact Nat.le_refl _
    exact I1.fpOk hle (I1.hok.fresh hle)
end QB
set_option Elab.async false
set_option linter.all false
set_option maxRecDepth 100000
set_option maxHeartbeats 4000000
namespace QB
open PySem PySem.Spec L2 PyProof.Rows
open PySem.PyData (strOk)
theorem it_enumT {K : PySem.W.Frag} {F : Hp} {a : Addr} {xs : List V} (h : F a = some (.tup xs)) : ItOk (IteT K a) F xs.length (fun i v H => ∃ T x, v = .ref T ∧ H T = some (.tup [.int (i : Nat), x]) ∧ xs[i]? = some x) where
  go := fun i H s hi => ⟨xs, xs[i], SqT.of (s _ _ h), by simp [hi]⟩
  stop := fun H s => ⟨xs, SqT.of (s _ _ h), rfl⟩
  yld := fun i H x H' s hi y => by
    obtain ⟨T, z, rfl, n, rfl, q⟩ := y
    exact ⟨same_new n, T, z, rfl, upd_same, q xs (SqT.of (s _ _ h))⟩
abbrev PairsAt (H : Hp) : List V → List (Str × Str) → Prop := Paired (PairAt H)
theorem PairsAt.ts {H H' : Hp} (s : Tsm H H') {vs : List V} {ls : List (Str × Str)} (h : PairsAt H vs ls) : PairsAt H' vs ls := paired_ts (fun _ _ _ _ s q => q.ts s) s h
def pD (p : Str × Str) : PyData := .tuple [.str p.1, .str p.2]
theorem dp_pair {K : PySem.W.Frag} {H : Hp} {v : V} {p : Str × Str} (h : PairAt H v p) : Dp K H v (pD p) := by
  obtain ⟨t, rfl, e⟩ := h
  exact dp_tupS (ss := [p.1, p.2]) e
theorem dp_pairs {K : PySem.W.Frag} {H : Hp} : ∀ {vs : List V} {ps : List (Str × Str)}, PairsAt H vs ps → DpAll K H vs (ps.map pD)
  | _, _, .nil => .nil
  | _, _, .cons h t => .cons (dp_pair h) (dp_pairs t)
theorem lay_pairs : ∀ ps : List (Str × Str), (∀ p ∈ ps, strOk p.1 = true ∧ strOk p.2 = true) → PyData.canLayAll0 (ps.map pD) = true
  | [], _ => rfl
  | p :: ps, h => by
    show (PyData.canLay0 (pD p) && PyData.canLayAll0 (ps.map pD)) = true
    rw [lay_pairs ps fun y hy => h y (List.mem_cons_of_mem _ hy)]
    have h1 := h p List.mem_cons_self
    simp [pD, PyData.canLay0, PyData.canLayAll0, h1.1, h1.2]
theorem depth_pairs : ∀ ps : List (Str × Str), PyData.depthAll (ps.map pD) ≤ 1
  | [] => by simp [PyData.depthAll]
  | p :: ps => by
    have := depth_pairs ps
    simp [PyData.depthAll, PyData.depth, pD] at this ⊢
    omega
theorem shaped_pairs {ps : List (Str × Str)} (h : ∀ p ∈ ps, strOk p.1 = true ∧ strOk p.2 = true) : SeqAt.shaped (.list (ps.map pD)) = true := by
  have := depth_pairs ps
  simp [SeqAt.shaped, PyData.canLay0, PyData.depth, lay_pairs ps h]
  omega
theorem any_pairs (p : Str × Str) : ∀ ps : List (Str × Str), ((ps.map pD).any fun z => PyData.eqv z (pD p)) = decide (p ∈ ps)
  | [] => by simp
  | q :: ps => by
    have e : PyData.eqv (pD q) (pD p) = decide (q = p) := by
      refine (eqv_tupS [q.1, q.2] [p.1, p.2]).trans ?_
      obtain ⟨a, b⟩ := p
      obtain ⟨c, d⟩ := q
      simp
    rw [List.map_cons, List.any_cons, any_pairs p ps, e]
    by_cases h1 : q = p
    · subst h1; simp
    · have h2 : ¬ p = q := fun h => h1 h.symm
      by_cases h3 : p ∈ ps <;> simp [h1, h2, h3]
theorem a_notinP {K : PySem.W.Frag} {H : Hp} {Q : VK} {x la : Addr} {p : Str × Str} {vs : List V} {ps : List (Str × Str)} (hx : H x = some (.tup [.str p.1, .str p.2])) (hl : H la = some (.lst vs)) (hp : PairsAt H vs ps) (o1 : strOk p.1 = true ∧ strOk p.2 = true) (o2 : ∀ p ∈ ps, strOk p.1 = true ∧ strOk p.2 = true) (k : Q (.bl (!decide (p ∈ ps))) H) : rNotInD K (.ref x) (.ref la) H Q := by
  refine ⟨pD p, ps.map pD, dp_pair ⟨x, rfl, hx⟩, .lst (SqL.of hl) (dp_pairs hp), ?_, shaped_pairs o2, ?_⟩
  · exact shaped_tupS (ss := [p.1, p.2]) fun z hz => by
      simp at hz
      rcases hz with rfl | rfl
      · exact o1.1
      · exact o1.2
  · rw [any_pairs]; exact k
end QB
set_option Elab.async false
set_option linter.all false
set_option maxRecDepth 100000
set_option maxHeartbeats 4000000

namespace QB
open PySem PySem.Spec L2
open PyProof.Rows (envOfC)
open RZ (Ty4 rIsTy call_isTy pi_zipA iZipA ItzT for_zipT for_zipL)
local macro_rules | `(tactic| walk_at "hp") => `(tactic| first | assumption | exact upd_same | (refine sg (by assumption) ?_; walk_at "hp"))
local macro_rules | `(tactic| walk_at "a") => `(tactic| first
  | with_reducible refine a_seq ?_ | with_reducible refine a_asg ?_ | with_reducible refine a_drop ?_ | with_reducible refine a_ret ?_ | with_reducible refine a_retN ?_
  | with_reducible refine a_ifS ?_ | with_reducible refine a_next ?_ | with_reducible refine a_gname ?_ | with_reducible refine a_nx ?_ | with_reducible refine a_rt ?_ | with_reducible refine a_bk ?_ | with_reducible refine a_ct ?_
  | ((with_reducible show tVar _ _ _ _); refine a_var rfl ?_) | with_reducible refine a_c ?_ | with_reducible refine a_op ?_ | with_reducible refine a_un ?_ | with_reducible refine a_cb ?_ | with_reducible refine a_nil ?_ | with_reducible refine a_cons ?_
  | with_reducible refine a_call ?_ | with_reducible refine a_meth ?_ | with_reducible refine a_make ?_ | with_reducible refine a_test ?_ | with_reducible refine a_tTest ?_ | with_reducible refine a_tand ?_ | with_reducible refine a_tor ?_ | with_reducible refine a_tnot ?_
  | with_reducible refine a_and ?_ | with_reducible refine a_or ?_ | with_reducible refine a_not ?_ | with_reducible refine a_if ?_ | with_reducible refine a_ri0 ?_ | with_reducible refine a_tup ?_ | with_reducible refine a_lst ?_
  | with_reducible refine a_bl ?_ | with_reducible refine a_sfld ?_ | with_reducible refine a_exI ?_ | with_reducible refine a_exZ ?_ | with_reducible refine a_chain ?_ | with_reducible refine a_lc ?_ | with_reducible refine a_yes ?_ | with_reducible refine a_gcons ?_ | with_reducible refine a_gnil ?_ | with_reducible refine w_list ?_ | with_reducible refine w_tup ?_ | with_reducible refine w_str ?_ | with_reducible refine w_rng1 ?_ | with_reducible refine w_zip ?_ | with_reducible refine w_zipA ?_
  | with_reducible refine a_tFld ?_ | with_reducible refine a_dget ?_ | with_reducible refine a_din ?_ | with_reducible refine a_dnin ?_ | with_reducible refine a_sl ?_ | with_reducible refine a_slNone ?_ | with_reducible refine a_slSome ?_
  | with_reducible refine a_isN ?_ | with_reducible refine a_notN ?_ | with_reducible refine a_eqI ?_ | with_reducible refine a_neI ?_ | with_reducible refine a_eqZ ?_ | with_reducible refine a_neZ ?_ | with_reducible refine a_ltZ ?_ | with_reducible refine a_int ?_ | with_reducible refine a_intB ?_ | with_reducible refine a_abs ?_ | with_reducible refine a_max2 ?_ | with_reducible refine a_min2 ?_ | with_reducible refine a_bm ?_
  | ((with_reducible show rLenQ _ _ _ _); first | refine a_lenT (by walk_at "hp") ?_ | refine a_lenL (by walk_at "hp") ?_)
  | with_reducible refine a_prsC ?_ | with_reducible refine a_prsN ?_ | with_reducible refine a_for ?_ | with_reducible refine a_dput ?_ | with_reducible refine w_keys ?_ | with_reducible refine w_listT ?_
  | with_reducible refine QB.a_rU ?_ | with_reducible refine QB.a_cKw ?_ | with_reducible refine QB.a_star ?_ | with_reducible refine QB.a_dget2 ?_
  | with_reducible refine QB.a_par ?_ | with_reducible refine QB.a_par3 ?_
  | with_reducible refine QB.a_srt ?_
  | with_reducible refine QB.a_dc ?_
  | with_reducible refine iteT ?_ | with_reducible refine iteNT ?_ | with_reducible refine iteNF ?_ | with_reducible refine iteF ?_ | with_reducible refine a_prop ?_)
local macro_rules | `(tactic| walk_at "aa") => `(tactic| (walk_at "a"; repeat walk_at "a"))

variable {P : Program} {w : World} {K : PySem.W.Frag} {mg : Str → Option Value} {base : Heap} {CN CC : Addr}
/-! ### plain.py -/
def spIsInteger : Sp := fun vs H Q _ => ∃ i : Int, vs = [.int i] ∧ Q (.bl true) H
abbrev N_is_integer : List Str := ["value"]
theorem sc_is_integer : FnScope N_is_integer ["value"] (defScope QH.s_is_integer) := ⟨rfl, rfl, rfl, by decide +kernel, rfl, by decide +kernel, by decide +kernel⟩
theorem D_is_integer (T : Tx P w K mg base CN CC) (F : FunAt K mg "is_integer" QH.s_is_integer) : DefOk P w K mg base "is_integer" ["value"] spIsInteger 1 := by
  refine mk_def F sc_is_integer (fun _ _ _ _ _ _ us hl => match us, hl with | [_], _ => rfl) (fun vs H Q E h => by obtain ⟨i, rfl, _⟩ := h; rfl) (fun f cdv A outer s H vs Q E hr h => ?_)
  have nd := sc_is_integer.nd
  obtain ⟨i, rfl, k⟩ := h
  refine ⟨_, (pss_one (ps_ret (pe_and (pe_callB (ki_isi (K := K)) (by rfl) T.f_isinstance (by decide +kernel) (pa_cons (pv 0) (pa_cons (pe_ty (T := "int") T.f_int (by decide +kernel) (by rfl)) pa_nil))) (pe_one (pe_not (pe_callB (ki_isi (K := K)) (by rfl) T.f_isinstance (by decide +kernel) (pa_cons (pv 0) (pa_cons (pe_ty (T := "bool") T.f_bool (by decide +kernel) (by rfl)) pa_nil)))))))), ?_⟩
  walk_at "aa"
  refine a_isi (.base (.int i)) (b := true) (by decide +kernel) ?_
  walk_at "aa"
  refine a_isi (.base (.int i)) (b := false) (by decide +kernel) ?_
  walk_at "aa"
  exact k
def spIsFrom : Sp := fun vs H Q _ => ∃ i l : Int, vs = [.int i, .int l] ∧ Q (.bl (decide (l ≤ i))) H
abbrev N_is_from : List Str := ["value", "least"]
theorem sc_is_from : FnScope N_is_from ["value", "least"] (defScope QH.s_is_from) := ⟨rfl, rfl, rfl, by decide +kernel, rfl, by decide +kernel, by decide +kernel⟩
theorem D_is_from (F : FunAt K mg "is_from" QH.s_is_from) (D_is_integer : DefOk P w K mg base "is_integer" ["value"] spIsInteger 1) : DefOk P w K mg base "is_from" ["value", "least"] spIsFrom 2 := by
  refine mk_def F sc_is_from (fun _ _ _ _ _ _ us hl => match us, hl with | [_, _], _ => rfl) (fun vs H Q E h => by obtain ⟨i, l, rfl, _⟩ := h; rfl) (fun f cdv A outer s H vs Q E hr h => ?_)
  have nd := sc_is_from.nd
  obtain ⟨i, l, rfl, k⟩ := h
  refine ⟨_, (pss_one (ps_ret (pe_and (pe_callD D_is_integer (hr.mono (by decide)) (by rfl) (pa_cons (pv 0) pa_nil)) (pe_one (pe_cmpR op_ge (pv 0) (pv 1) (nomark _)))))), ?_⟩
  walk_at "aa"
  refine ⟨i, rfl, ?_⟩
  walk_at "aa"
  exact k
def spIsOneOf (K : PySem.W.Frag) : Sp := fun vs H Q _ => ∃ (z : Str) (t : Addr) (ss : List Str), vs = [.str z, .ref t] ∧ H t = some (.tup (ss.map V.str)) ∧ Q (.bl (decide (z ∈ ss))) H
theorem inV_str (z : Str) : ∀ ss : List Str, inV (.str z) (ss.map V.str) = decide (z ∈ ss) := by
  intro ss
  induction ss with
  | nil => rfl
  | cons a ss ih =>
    have e : inV (.str z) ((a :: ss).map V.str) = ((a == z) || inV (.str z) (ss.map V.str)) := rfl
    rw [e, ih]
    by_cases h : a = z
    · subst h; simp
    · have h2 : (a == z) = false := by simpa using h
      have h3 : ¬ z = a := fun q => h q.symm
      simp [h2, h3]
theorem flat_str (ss : List Str) : (ss.map V.str).all flatV = true := by
  rw [List.all_eq_true]
  intro x hx
  obtain ⟨z, _, rfl⟩ := List.mem_map.mp hx
  rfl
theorem a_inT {neg : Bool} {H : Hp} {Q : VK} {z : Str} {t : Addr} {ss : List Str} (h : H t = some (.tup (ss.map V.str))) (q : Q (.bl (if neg then !decide (z ∈ ss) else decide (z ∈ ss))) H) : rIn K neg (.str z) (.ref t) H Q := by
  refine ⟨t, _, rfl, .inr (SqT.of h), rfl, flat_str ss, ?_⟩
  rw [inV_str]
  exact q
theorem a_inL {neg : Bool} {H : Hp} {Q : VK} {z : Str} {t : Addr} {ss : List Str} (h : H t = some (.lst (ss.map V.str))) (q : Q (.bl (if neg then !decide (z ∈ ss) else decide (z ∈ ss))) H) : rIn K neg (.str z) (.ref t) H Q := by
  refine ⟨t, _, rfl, .inl (SqL.of h), rfl, flat_str ss, ?_⟩
  rw [inV_str]
  exact q
abbrev N_is_one_of : List Str := ["value", "some"]
theorem sc_is_one_of : FnScope N_is_one_of ["value", "some"] (defScope QH.s_is_one_of) := ⟨rfl, rfl, rfl, by decide +kernel, rfl, by decide +kernel, by decide +kernel⟩
theorem D_is_one_of (T : Tx P w K mg base CN CC) (F : FunAt K mg "is_one_of" QH.s_is_one_of) : DefOk P w K mg base "is_one_of" ["value", "some"] (spIsOneOf K) 1 := by
  refine mk_def F sc_is_one_of (fun _ _ _ _ _ _ us hl => match us, hl with | [_, _], _ => rfl) (fun vs H Q E h => by obtain ⟨z, t, ss, rfl, _⟩ := h; rfl) (fun f cdv A outer s H vs Q E hr h => ?_)
  have nd := sc_is_one_of.nd
  obtain ⟨z, t, ss, rfl, ht, k⟩ := h
  refine ⟨_, (pss_one (ps_ret (pe_and (pe_callB call_isTy (by rfl) T.f_isinstance (by decide +kernel) (pa_cons (pv 0) (pa_cons (pe_ty (T := "str") T.f_str (by decide +kernel) (by rfl)) pa_nil))) (pe_one (pe_cmpR (ki_in (K := K)) (pv 0) (pv 1) (by rfl)))))), ?_⟩
  walk_at "aa"
  refine a_isTy (.str z) ?_
  walk_at "aa"
  refine a_inT ht ?_
  walk_at "aa"
  exact k
def spIsTupleOf (K : PySem.W.Frag) : Sp := fun vs H Q _ => ∃ (t : Addr) (xs : List V) (n : Int), vs = [.ref t, .int n] ∧ H t = some (.tup xs) ∧ Q (.bl (decide ((xs.length : Int) = n))) H
abbrev N_is_tuple_of : List Str := ["value", "many"]
theorem sc_is_tuple_of : FnScope N_is_tuple_of ["value", "many"] (defScope QH.s_is_tuple_of) := ⟨rfl, rfl, rfl, by decide +kernel, rfl, by decide +kernel, by decide +kernel⟩
theorem D_is_tuple_of (T : Tx P w K mg base CN CC) (F : FunAt K mg "is_tuple_of" QH.s_is_tuple_of) : DefOk P w K mg base "is_tuple_of" ["value", "many"] (spIsTupleOf K) 1 := by
  refine mk_def F sc_is_tuple_of (fun _ _ _ _ _ _ us hl => match us, hl with | [_, _], _ => rfl) (fun vs H Q E h => by obtain ⟨t, xs, n, rfl, _⟩ := h; rfl) (fun f cdv A outer s H vs Q E hr h => ?_)
  have nd := sc_is_tuple_of.nd
  obtain ⟨t, xs, n, rfl, ht, k⟩ := h
  refine ⟨_, (pss_one (ps_ret (pe_and (pe_callB call_isTy (by rfl) T.f_isinstance (by decide +kernel) (pa_cons (pv 0) (pa_cons (pe_ty (T := "tuple") T.f_tuple (by decide +kernel) (by rfl)) pa_nil))) (pe_one (pe_cmpR op_eq (pe_callB (ki_len (K := K)) (by rfl) T.f_len (by decide +kernel) (pa_cons (pv 0) pa_nil)) (pv 1) (nomark _)))))), ?_⟩
  walk_at "aa"
  refine a_isTy (.tup ht) ?_
  walk_at "aa"
  exact k
def spIsTupleTo (K : PySem.W.Frag) : Sp := fun vs H Q _ => ∃ (t : Addr) (xs : List V) (n : Int), vs = [.ref t, .int n] ∧ H t = some (.tup xs) ∧ Q (.bl (decide ((xs.length : Int) ≤ n))) H
abbrev N_is_tuple_to : List Str := ["value", "most"]
theorem sc_is_tuple_to : FnScope N_is_tuple_to ["value", "most"] (defScope QH.s_is_tuple_to) := ⟨rfl, rfl, rfl, by decide +kernel, rfl, by decide +kernel, by decide +kernel⟩
theorem D_is_tuple_to (T : Tx P w K mg base CN CC) (F : FunAt K mg "is_tuple_to" QH.s_is_tuple_to) : DefOk P w K mg base "is_tuple_to" ["value", "most"] (spIsTupleTo K) 1 := by
  refine mk_def F sc_is_tuple_to (fun _ _ _ _ _ _ us hl => match us, hl with | [_, _], _ => rfl) (fun vs H Q E h => by obtain ⟨t, xs, n, rfl, _⟩ := h; rfl) (fun f cdv A outer s H vs Q E hr h => ?_)
  have nd := sc_is_tuple_to.nd
  obtain ⟨t, xs, n, rfl, ht, k⟩ := h
  refine ⟨_, (pss_one (ps_ret (pe_and (pe_callB call_isTy (by rfl) T.f_isinstance (by decide +kernel) (pa_cons (pv 0) (pa_cons (pe_ty (T := "tuple") T.f_tuple (by decide +kernel) (by rfl)) pa_nil))) (pe_one (pe_cmpR op_le (pe_callB (ki_len (K := K)) (by rfl) T.f_len (by decide +kernel) (pa_cons (pv 0) pa_nil)) (pv 1) (nomark _)))))), ?_⟩
  walk_at "aa"
  refine a_isTy (.tup ht) ?_
  walk_at "aa"
  exact k
end QB
set_option Elab.async false
set_option linter.all false
set_option maxRecDepth 100000
set_option maxHeartbeats 4000000

namespace QB
open PySem PySem.Spec L2
open PyProof.Rows (envOfC)
open PySem.PyData (strOk)
open RZ (Ty4 rIsTy call_isTy pi_zipA iZipA ItzT for_zipT for_zipL)
local macro_rules | `(tactic| walk_at "hp") => `(tactic| first | assumption | exact upd_same | (refine sg (by assumption) ?_; walk_at "hp"))
local macro_rules | `(tactic| walk_at "a") => `(tactic| first
  | with_reducible refine a_seq ?_ | with_reducible refine a_asg ?_ | with_reducible refine a_drop ?_ | with_reducible refine a_ret ?_ | with_reducible refine a_retN ?_
  | with_reducible refine a_ifS ?_ | with_reducible refine a_next ?_ | with_reducible refine a_gname ?_ | with_reducible refine a_nx ?_ | with_reducible refine a_rt ?_ | with_reducible refine a_bk ?_ | with_reducible refine a_ct ?_
  | ((with_reducible show tVar _ _ _ _); refine a_var rfl ?_) | with_reducible refine a_c ?_ | with_reducible refine a_op ?_ | with_reducible refine a_un ?_ | with_reducible refine a_cb ?_ | with_reducible refine a_nil ?_ | with_reducible refine a_cons ?_
  | with_reducible refine a_call ?_ | with_reducible refine a_meth ?_ | with_reducible refine a_make ?_ | with_reducible refine a_test ?_ | with_reducible refine a_tTest ?_ | with_reducible refine a_tand ?_ | with_reducible refine a_tor ?_ | with_reducible refine a_tnot ?_
  | with_reducible refine a_and ?_ | with_reducible refine a_or ?_ | with_reducible refine a_not ?_ | with_reducible refine a_if ?_ | with_reducible refine a_ri0 ?_ | with_reducible refine a_tup ?_ | with_reducible refine a_lst ?_
  | with_reducible refine a_bl ?_ | with_reducible refine a_sfld ?_ | with_reducible refine a_exI ?_ | with_reducible refine a_exZ ?_ | with_reducible refine a_chain ?_ | with_reducible refine a_lc ?_ | with_reducible refine a_yes ?_ | with_reducible refine a_gcons ?_ | with_reducible refine a_gnil ?_ | with_reducible refine w_list ?_ | with_reducible refine w_tup ?_ | with_reducible refine w_str ?_ | with_reducible refine w_rng1 ?_ | with_reducible refine w_zip ?_ | with_reducible refine w_zipA ?_
  | with_reducible refine a_tFld ?_ | with_reducible refine a_dget ?_ | with_reducible refine a_din ?_ | with_reducible refine a_dnin ?_ | with_reducible refine a_sl ?_ | with_reducible refine a_slNone ?_ | with_reducible refine a_slSome ?_
  | with_reducible refine a_isN ?_ | with_reducible refine a_notN ?_ | with_reducible refine a_eqI ?_ | with_reducible refine a_neI ?_ | with_reducible refine a_eqZ ?_ | with_reducible refine a_neZ ?_ | with_reducible refine a_ltZ ?_ | with_reducible refine a_int ?_ | with_reducible refine a_intB ?_ | with_reducible refine a_abs ?_ | with_reducible refine a_max2 ?_ | with_reducible refine a_min2 ?_ | with_reducible refine a_bm ?_
  | ((with_reducible show rLenQ _ _ _ _); first | refine a_lenT (by walk_at "hp") ?_ | refine a_lenL (by walk_at "hp") ?_)
  | with_reducible refine a_prsC ?_ | with_reducible refine a_prsN ?_ | with_reducible refine a_for ?_ | with_reducible refine a_dput ?_ | with_reducible refine w_keys ?_ | with_reducible refine w_listT ?_
  | with_reducible refine QB.a_rU ?_ | with_reducible refine QB.a_cKw ?_ | with_reducible refine QB.a_star ?_ | with_reducible refine QB.a_dget2 ?_
  | with_reducible refine QB.a_par ?_ | with_reducible refine QB.a_par3 ?_
  | with_reducible refine QB.a_srt ?_
  | with_reducible refine QB.a_dc ?_
  | with_reducible refine iteT ?_ | with_reducible refine iteNT ?_ | with_reducible refine iteNF ?_ | with_reducible refine iteF ?_ | with_reducible refine a_prop ?_)
local macro_rules | `(tactic| walk_at "aa") => `(tactic| (walk_at "a"; repeat walk_at "a"))

variable {P : Program} {w : World} {K : PySem.W.Frag} {mg : Str → Option Value} {base : Heap} {CN CC : Addr}
def spIsName : Sp := fun vs H Q _ => ∃ z : Str, vs = [.str z] ∧ NameOk z ∧ ∀ H', Same H H' → Q (.bl true) H'
abbrev N_is_name : List Str := ["value", "sign"]
theorem sc_is_name : FnScope N_is_name ["value"] (defScope QH.s_is_name) := ⟨rfl, rfl, rfl, by decide +kernel, rfl, by decide +kernel, by decide +kernel⟩
theorem letters (c : Nat) (h : 97 ≤ c ∧ c ≤ 122) : c ∈ ("abcdefghijklmnopqrstuvwxyz" : Str).cps.toList := by
  have e : ("abcdefghijklmnopqrstuvwxyz" : Str).cps.toList = (List.range 26).map (· + 97) := by decide +kernel
  rw [e]
  exact List.mem_map.mpr ⟨c - 97, List.mem_range.mpr (by omega), by omega⟩
theorem D_is_name (T : Tx P w K mg base CN CC) (F : FunAt K mg "is_name" QH.s_is_name) : DefOk P w K mg base "is_name" ["value"] spIsName 1 := by
  refine mk_def F sc_is_name (fun _ _ _ _ _ _ us hl => match us, hl with | [_], _ => rfl) (fun vs H Q E h => by obtain ⟨z, rfl, _⟩ := h; rfl) (fun f cdv A outer s H vs Q E hr h => ?_)
  have nd := sc_is_name.nd
  obtain ⟨z, rfl, nz, k⟩ := h
  refine ⟨_, (pss_cons (ps_if (PW.pt (pw_or (pt_not (pt_val (pe_callB call_isTy (by rfl) T.f_isinstance (by decide +kernel) (pa_cons (pv 0) (pa_cons (pe_ty (T := "str") T.f_str (by decide +kernel) (by rfl)) pa_nil))))) (pw_or1 (pt_not (pt_chain op_le op_le pe_int (pe_callB c_lenZ (by rfl) T.f_len (by decide +kernel) (pa_cons (pv 0) pa_nil)) (k_int T.c_LONGEST_NAME (by rfl))))))) (pss_one (ps_ret pe_bl)) pss_nil)
    (pss_one (ps_ret (pe_callB (ki_all (K := K) rfl) (by rfl) T.f_all (by decide +kernel) (pa_cons (pe_lc (own := [("sign", 1)]) (g := (gName 1)) (tt := tYes) rfl nd (pi_str (pv 0)) (blkOk_by (by with_unfolding_all rfl)) (fun _ _ _ _ _ => (pg_name (i := 1) nd rfl (by first | exact Or.inl rfl | exact Or.inr rfl))) (fun _ _ _ _ _ => pts_nil) (fun _ _ _ _ _ => (pe_cmpR o_inSg (pv 1) (k_str T.c_LETTERS (by rfl)) (by rfl)))) pa_nil))))), ?_⟩
  walk_at "aa"
  refine a_isTy (.str z) ?_
  walk_at "aa"
  refine ⟨z, rfl, Nat.le_trans nz.most (by decide), ?_⟩
  walk_at "aa"
  refine iteY (by have := nz.one; omega) ?_
  walk_at "aa"
  refine iteYN (by have := nz.most; omega) ?_
  walk_at "aa"
  refine fun D nD => ?_
  refine lc_go (it_str z) (Same.refl H) nD (fun i acc _ => ∀ v ∈ acc, v = V.bl true) (fun v hv => nomatch hv) (fun _ _ _ _ _ r => r) ?_ ?_
  · rintro i acc H1 x hi sF hD l r ⟨c, hc, rfl⟩
    walk_at "aa"
    refine ⟨rfl, ?_⟩
    walk_at "aa"
    refine ⟨c, _, rfl, rfl, ?_⟩
    refine lc_put (by have := nz.most; have e : z.cps.size = z.length := rfl; omega) nD (fun _ _ _ _ _ r => r) sF hD l (fun v hv => ?_)
    rcases List.mem_append.mp hv with hv | hv
    · exact r v hv
    · rw [List.mem_singleton.mp hv, decide_eq_true (letters c (nz.low c (by rw [← Array.getElem?_toList] at hc; exact List.mem_of_getElem? hc)))]
  · intro acc H1 sF hD l r
    walk_at "aa"
    exact a_allT hD r (k H1 sF)

def spAreAsc : Sp := fun vs H Q _ => ∃ t : Addr, vs = [.ref t] ∧ (∀ H', Same H H' → Q (.bl true) H') ∧
  ((∃ ss : List Str, H t = some (.tup (ss.map V.str)) ∧ AscL ltS ss ∧ ss.length ≤ 100) ∨ ∃ (as : List V) (ps : List (Str × Str)), H t = some (.lst as) ∧ Paired (PairAt H) as ps ∧ AscL ltP ps ∧ ps.length ≤ 100)
abbrev N_are_ascending : List Str := ["things", "one", "other"]
theorem sc_are_ascending : FnScope N_are_ascending ["things"] (defScope QH.s_are_ascending) := ⟨rfl, rfl, rfl, by decide +kernel, rfl, by decide +kernel, by decide +kernel⟩
theorem D_are_ascending (T : Tx P w K mg base CN CC) (F : FunAt K mg "are_ascending" QH.s_are_ascending) : DefOk P w K mg base "are_ascending" ["things"] spAreAsc 1 := by
  refine mk_def F sc_are_ascending (fun _ _ _ _ _ _ us hl => match us, hl with | [_], _ => rfl) (fun vs H Q E h => by obtain ⟨z, rfl, _⟩ := h; rfl) (fun f cdv A outer s H vs Q E hr h => ?_)
  have nd := sc_are_ascending.nd
  obtain ⟨t, rfl, k, ⟨ss, ht, asc, hl⟩ | ⟨as, ps, ht, pr, asc, hl⟩⟩ := h
  · refine ⟨_, (pss_one (ps_ret (pe_callB (ki_all (K := K) rfl) (by rfl) T.f_all (by decide +kernel) (pa_cons (pe_lc (own := [("one", 1), ("other", 2)]) (g := (gTup K 2 (gCons (gName 1) (gCons (gName 2) gNil)))) (tt := tYes) rfl nd (pi_zipT (by rfl) T.f_zip (pa_cons (pv 0) (pa_cons (pe_slice (ki_slA (K := K)) (pv 0) (po_some pe_int) po_none) pa_nil))) (blkOk_by (by with_unfolding_all rfl)) (fun _ _ _ _ _ => (ki_gtup (K := K) rfl (pgs_cons (pg_name (i := 1) nd rfl (by first | exact Or.inl rfl | exact Or.inr rfl)) (pgs_cons (pg_name (i := 2) nd rfl (by first | exact Or.inl rfl | exact Or.inr rfl)) pgs_nil)))) (fun _ _ _ _ _ => pts_nil) (fun _ _ _ _ _ => (pe_cmpR o_ltZ (pv 1) (pv 2) (nomark _)))) pa_nil)))), ?_⟩
    walk_at "aa"
    refine a_slT ht fun l H1 s1 h1 => ?_
    walk_at "aa"
    rw [cut1] at h1
    refine ⟨t, l, _, _, rfl, .inr ⟨SqT.of (s1 _ _ ht), SqT.of h1, fun D nD => ?_⟩⟩
    refine lc_go (it_zipT (s1 _ _ ht) h1) (Same.refl H1) nD (fun i acc _ => ∀ v ∈ acc, v = V.bl true) (fun v hv => nomatch hv) (fun _ _ _ _ _ r => r) ?_ ?_
    · rintro i acc H2 x hi sF hD l r ⟨T', x', y', rfl, hT, hx, hy⟩
      refine a_gtup hT rfl ?_
      walk_at "aa"
      refine ⟨rfl, ?_⟩
      rw [List.getElem?_map] at hx
      rw [List.getElem?_drop, List.getElem?_map] at hy
      obtain ⟨z1, e1, rfl⟩ := Option.map_eq_some_iff.mp hx
      obtain ⟨z2, e2, rfl⟩ := Option.map_eq_some_iff.mp hy
      have lt := asc i z1 z2 e1 (by rw [Nat.add_comm]; exact e2)
      walk_at "aa"
      refine lc_put (by simp at hi; omega) nD (fun _ _ _ _ _ r => r) sF hD l (fun v hv => ?_)
      rcases List.mem_append.mp hv with hv | hv
      · exact r v hv
      · rw [List.mem_singleton.mp hv]
        exact congrArg V.bl lt
    · intro acc H2 sF hD l r
      walk_at "aa"
      exact a_allT hD r (k H2 (s1.trans sF))
  · refine ⟨_, (pss_one (ps_ret (pe_callB (ki_all (K := K) rfl) (by rfl) T.f_all (by decide +kernel) (pa_cons (pe_lc (own := [("one", 1), ("other", 2)]) (g := (gTup K 2 (gCons (gName 1) (gCons (gName 2) gNil)))) (tt := tYes) rfl nd (pi_zip (by rfl) T.f_zip (pa_cons (pv 0) (pa_cons (pe_slice (ki_slL (K := K)) (pv 0) (po_some pe_int) po_none) pa_nil))) (blkOk_by (by with_unfolding_all rfl)) (fun _ _ _ _ _ => (ki_gtup (K := K) rfl (pgs_cons (pg_name (i := 1) nd rfl (by first | exact Or.inl rfl | exact Or.inr rfl)) (pgs_cons (pg_name (i := 2) nd rfl (by first | exact Or.inl rfl | exact Or.inr rfl)) pgs_nil)))) (fun _ _ _ _ _ => pts_nil) (fun _ _ _ _ _ => (pe_cmpR (op_ltD (K := K) hr.units) (pv 1) (pv 2) (nomark _)))) pa_nil)))), ?_⟩
    walk_at "aa"
    refine a_slL ht fun l H1 n1 s1 h1 => ?_
    walk_at "aa"
    rw [cut1] at h1
    refine ⟨t, l, _, _, rfl, SqL.of (s1 _ _ ht), SqL.of h1, fun D nD => ?_⟩
    refine lc_go (it_zipL (s1 _ _ ht) h1) (Same.refl H1) nD (fun i acc _ => ∀ v ∈ acc, v = V.bl true) (fun v hv => nomatch hv) (fun _ _ _ _ _ r => r) ?_ ?_
    · rintro i acc H2 x hi sF hD l r ⟨T', x', y', rfl, hT, hx, hy⟩
      refine a_gtup hT rfl ?_
      walk_at "aa"
      refine ⟨rfl, ?_⟩
      rw [List.getElem?_drop] at hy
      obtain ⟨p1, e1, a1, rfl, q1⟩ := paired_get pr hx
      obtain ⟨p2, e2, a2, rfl, q2⟩ := paired_get pr hy
      have lt := asc i p1 p2 e1 (by rw [Nat.add_comm]; exact e2)
      walk_at "aa"
      refine a_ltP (sF _ _ (s1 _ _ q1)) (sF _ _ (s1 _ _ q2)) ?_
      have hl2 := pr.length
      refine lc_put (by simp at hi; omega) nD (fun _ _ _ _ _ r => r) sF hD l (fun v hv => ?_)
      rcases List.mem_append.mp hv with hv | hv
      · exact r v hv
      · rw [List.mem_singleton.mp hv]
        exact congrArg V.bl lt
    · intro acc H2 sF hD l r
      walk_at "aa"
      exact a_allT hD r (k H2 (s1.trans sF))
end QB
set_option Elab.async false
set_option linter.all false
set_option maxRecDepth 100000
set_option maxHeartbeats 4000000

namespace QB
open PySem PySem.Spec L2
open PyProof.Rows (envOfC)
open PySem.PyData (strOk)
open RZ (Ty4 rIsTy call_isTy pi_zipA iZipA ItzT for_zipT for_zipL)
local macro_rules | `(tactic| walk_at "hp") => `(tactic| first | assumption | exact upd_same | (refine sg (by assumption) ?_; walk_at "hp"))
local macro_rules | `(tactic| walk_at "a") => `(tactic| first
  | with_reducible refine a_seq ?_ | with_reducible refine a_asg ?_ | with_reducible refine a_drop ?_ | with_reducible refine a_ret ?_ | with_reducible refine a_retN ?_
  | with_reducible refine a_ifS ?_ | with_reducible refine a_next ?_ | with_reducible refine a_gname ?_ | with_reducible refine a_nx ?_ | with_reducible refine a_rt ?_ | with_reducible refine a_bk ?_ | with_reducible refine a_ct ?_
  | ((with_reducible show tVar _ _ _ _); refine a_var rfl ?_) | with_reducible refine a_c ?_ | with_reducible refine a_op ?_ | with_reducible refine a_un ?_ | with_reducible refine a_cb ?_ | with_reducible refine a_nil ?_ | with_reducible refine a_cons ?_
  | with_reducible refine a_call ?_ | with_reducible refine a_meth ?_ | with_reducible refine a_make ?_ | with_reducible refine a_test ?_ | with_reducible refine a_tTest ?_ | with_reducible refine a_tand ?_ | with_reducible refine a_tor ?_ | with_reducible refine a_tnot ?_
  | with_reducible refine a_and ?_ | with_reducible refine a_or ?_ | with_reducible refine a_not ?_ | with_reducible refine a_if ?_ | with_reducible refine a_ri0 ?_ | with_reducible refine a_tup ?_ | with_reducible refine a_lst ?_
  | with_reducible refine a_bl ?_ | with_reducible refine a_sfld ?_ | with_reducible refine a_exI ?_ | with_reducible refine a_exZ ?_ | with_reducible refine a_chain ?_ | with_reducible refine a_lc ?_ | with_reducible refine a_yes ?_ | with_reducible refine a_gcons ?_ | with_reducible refine a_gnil ?_ | with_reducible refine w_list ?_ | with_reducible refine w_tup ?_ | with_reducible refine w_str ?_ | with_reducible refine w_rng1 ?_ | with_reducible refine w_zip ?_ | with_reducible refine w_zipA ?_
  | with_reducible refine a_tFld ?_ | with_reducible refine a_dget ?_ | with_reducible refine a_din ?_ | with_reducible refine a_dnin ?_ | with_reducible refine a_sl ?_ | with_reducible refine a_slNone ?_ | with_reducible refine a_slSome ?_
  | with_reducible refine a_isN ?_ | with_reducible refine a_notN ?_ | with_reducible refine a_eqI ?_ | with_reducible refine a_neI ?_ | with_reducible refine a_eqZ ?_ | with_reducible refine a_neZ ?_ | with_reducible refine a_ltZ ?_ | with_reducible refine a_int ?_ | with_reducible refine a_intB ?_ | with_reducible refine a_abs ?_ | with_reducible refine a_max2 ?_ | with_reducible refine a_min2 ?_ | with_reducible refine a_bm ?_
  | ((with_reducible show rLenQ _ _ _ _); first | refine a_lenT (by walk_at "hp") ?_ | refine a_lenL (by walk_at "hp") ?_)
  | with_reducible refine a_prsC ?_ | with_reducible refine a_prsN ?_ | with_reducible refine a_for ?_ | with_reducible refine a_dput ?_ | with_reducible refine w_keys ?_ | with_reducible refine w_listT ?_
  | with_reducible refine QB.a_rU ?_ | with_reducible refine QB.a_cKw ?_ | with_reducible refine QB.a_star ?_ | with_reducible refine QB.a_dget2 ?_
  | with_reducible refine QB.a_par ?_ | with_reducible refine QB.a_par3 ?_
  | with_reducible refine QB.a_srt ?_
  | with_reducible refine QB.a_dc ?_
  | with_reducible refine iteT ?_ | with_reducible refine iteNT ?_ | with_reducible refine iteNF ?_ | with_reducible refine iteF ?_ | with_reducible refine a_prop ?_)
local macro_rules | `(tactic| walk_at "aa") => `(tactic| (walk_at "a"; repeat walk_at "a"))

variable {P : Program} {w : World} {K : PySem.W.Frag} {mg : Str → Option Value} {base : Heap} {CN CC : Addr}
theorem tru_put {acc : List V} (r : ∀ v ∈ acc, v = V.bl true) {v : V} (h : v = .bl true) : ∀ u ∈ acc ++ [v], u = V.bl true := fun u hu => by
  rcases List.mem_append.mp hu with hu | hu
  · exact r u hu
  · rw [List.mem_singleton.mp hu, h]
def spIsAscOf : Sp := fun vs H Q _ => ∃ (v t : Addr) (ss R : List Str), vs = [.ref v, .ref t] ∧ H v = some (.tup (ss.map V.str)) ∧ H t = some (.tup (R.map V.str)) ∧ (∀ z ∈ ss, z ∈ R) ∧ AscL ltS ss ∧ ss.length ≤ 100 ∧ ∀ H', Same H H' → Q (.bl true) H'
abbrev N_is_ascending_of : List Str := ["value", "some", "item"]
theorem sc_is_ascending_of : FnScope N_is_ascending_of ["value", "some"] (defScope QH.s_is_ascending_of) := ⟨rfl, rfl, rfl, by decide +kernel, rfl, by decide +kernel, by decide +kernel⟩
theorem D_is_ascending_of (T : Tx P w K mg base CN CC) (F : FunAt K mg "is_ascending_of" QH.s_is_ascending_of) (D_is_one_of : DefOk P w K mg base "is_one_of" ["value", "some"] (spIsOneOf K) 1) (D_are_ascending : DefOk P w K mg base "are_ascending" ["things"] spAreAsc 1) :
    DefOk P w K mg base "is_ascending_of" ["value", "some"] spIsAscOf 2 := by
  refine mk_def F sc_is_ascending_of (fun _ _ _ _ _ _ us hl => match us, hl with | [_, _], _ => rfl) (fun vs H Q E h => by obtain ⟨v, t, ss, R, rfl, _⟩ := h; rfl) (fun f cdv A outer s H vs Q E hr h => ?_)
  have nd := sc_is_ascending_of.nd
  obtain ⟨v, t, ss, R, rfl, hv, ht, hin, asc, hl, k⟩ := h
  refine ⟨_, (pss_one (ps_ret (pe_and (pe_callB call_isTy (by rfl) T.f_isinstance (by decide +kernel) (pa_cons (pv 0) (pa_cons (pe_ty (T := "tuple") T.f_tuple (by decide +kernel) (by rfl)) pa_nil))) (pe_and (pe_callB (ki_all (K := K) rfl) (by rfl) T.f_all (by decide +kernel) (pa_cons (pe_lc (own := [("item", 2)]) (g := (gName 2)) (tt := tYes) rfl nd (ki_ptup (K := K) (pv 0)) (blkOk_by (by with_unfolding_all rfl)) (fun _ _ _ _ _ => (pg_name (i := 2) nd rfl (by first | exact Or.inl rfl | exact Or.inr rfl))) (fun _ _ _ _ _ => pts_nil) (fun _ _ _ _ _ => (pe_callD D_is_one_of (hr.mono (by decide)) (by rfl) (pa_cons (pv 2) (pa_cons (pv 1) pa_nil))))) pa_nil)) (pe_one (pe_callD D_are_ascending (hr.mono (by decide)) (by rfl) (pa_cons (pv 0) pa_nil))))))), ?_⟩
  walk_at "aa"
  refine a_isTy (.tup hv) ?_
  walk_at "aa"
  refine ⟨v, rfl, ⟨_, SqT.of hv⟩, fun D nD => ?_⟩
  refine lc_go (it_tup hv) (Same.refl H) nD (fun i acc _ => ∀ v ∈ acc, v = V.bl true) (fun v hv => nomatch hv) (fun _ _ _ _ _ r => r) ?_ ?_
  · rintro i acc H1 x hi sF hD l r hx
    rw [List.getElem?_map] at hx
    obtain ⟨z, e1, rfl⟩ := Option.map_eq_some_iff.mp hx
    walk_at "aa"
    refine ⟨rfl, ?_⟩
    walk_at "aa"
    refine ⟨z, t, R, rfl, sF _ _ ht, ?_⟩
    refine lc_put (by simp at hi; omega) nD (fun _ _ _ _ _ r => r) sF hD l (tru_put r ?_)
    rw [decide_eq_true (hin z (List.mem_of_getElem? e1))]
  · intro acc H1 sF hD l r
    walk_at "aa"
    refine a_allT hD r ?_
    walk_at "aa"
    exact ⟨v, rfl, fun H2 s2 => k H2 (sF.trans s2), .inl ⟨ss, sF _ _ hv, asc, hl⟩⟩
def spAreRouters : Sp := fun vs H Q _ => ∃ (t : Addr) (R : List Str), vs = [.ref t] ∧ H t = some (.tup (R.map V.str)) ∧ RoutersOk R ∧ ∀ H', Same H H' → Q (.bl true) H'
abbrev N_are_routers : List Str := ["value", "name"]
theorem sc_are_routers : FnScope N_are_routers ["value"] (defScope QH.s_are_routers) := ⟨rfl, rfl, rfl, by decide +kernel, rfl, by decide +kernel, by decide +kernel⟩
theorem D_are_routers (T : Tx P w K mg base CN CC) (F : FunAt K mg "are_routers" QH.s_are_routers) (D_is_tuple_to : DefOk P w K mg base "is_tuple_to" ["value", "most"] (spIsTupleTo K) 1) (D_is_name : DefOk P w K mg base "is_name" ["value"] spIsName 1)
    (D_are_ascending : DefOk P w K mg base "are_ascending" ["things"] spAreAsc 1) : DefOk P w K mg base "are_routers" ["value"] spAreRouters 2 := by
  refine mk_def F sc_are_routers (fun _ _ _ _ _ _ us hl => match us, hl with | [_], _ => rfl) (fun vs H Q E h => by obtain ⟨t, R, rfl, _⟩ := h; rfl) (fun f cdv A outer s H vs Q E hr h => ?_)
  have nd := sc_are_routers.nd
  obtain ⟨t, R, rfl, ht, ok, k⟩ := h
  have hl8 := ok.most
  have hl2 := ok.two
  refine ⟨_, (pss_cons (ps_if (PW.pt (pw_or (pt_not (pt_val (pe_callD D_is_tuple_to (hr.mono (by decide)) (by rfl) (pa_cons (pv 0) (pa_cons (k_int T.c_MOST_ROUTERS (by rfl)) pa_nil))))) (pw_or1 (pt_cmpR op_lt (pe_callB (ki_len (K := K)) (by rfl) T.f_len (by decide +kernel) (pa_cons (pv 0) pa_nil)) (k_int T.c_FEWEST_ROUTERS (by rfl)) (nomark _))))) (pss_one (ps_ret pe_bl)) pss_nil)
    (pss_one (ps_ret (pe_and (pe_callB (ki_all (K := K) rfl) (by rfl) T.f_all (by decide +kernel) (pa_cons (pe_lc (own := [("name", 1)]) (g := (gName 1)) (tt := tYes) rfl nd (ki_ptup (K := K) (pv 0)) (blkOk_by (by with_unfolding_all rfl)) (fun _ _ _ _ _ => (pg_name (i := 1) nd rfl (by first | exact Or.inl rfl | exact Or.inr rfl))) (fun _ _ _ _ _ => pts_nil) (fun _ _ _ _ _ => (pe_callD D_is_name (hr.mono (by decide)) (by rfl) (pa_cons (pv 1) pa_nil)))) pa_nil)) (pe_one (pe_callD D_are_ascending (hr.mono (by decide)) (by rfl) (pa_cons (pv 0) pa_nil))))))), ?_⟩
  walk_at "aa"
  refine ⟨t, _, 8, rfl, ht, ?_⟩
  walk_at "aa"
  refine iteYN (by simp; omega) ?_
  walk_at "aa"
  refine iteZ (by simp; omega) ?_
  walk_at "aa"
  refine ⟨t, rfl, ⟨_, SqT.of ht⟩, fun D nD => ?_⟩
  refine lc_go (it_tup ht) (Same.refl H) nD (fun i acc _ => ∀ v ∈ acc, v = V.bl true) (fun v hv => nomatch hv) (fun _ _ _ _ _ r => r) ?_ ?_
  · rintro i acc H1 x hi sF hD l r hx
    rw [List.getElem?_map] at hx
    obtain ⟨z, e1, rfl⟩ := Option.map_eq_some_iff.mp hx
    walk_at "aa"
    refine ⟨rfl, ?_⟩
    walk_at "aa"
    refine ⟨z, rfl, ok.names z (List.mem_of_getElem? e1), fun H2 s2 => ?_⟩
    exact lc_put (by simp at hi; omega) nD (fun _ _ _ _ _ r => r) (sF.trans s2) (s2 _ _ hD) l (tru_put r rfl)
  · intro acc H1 sF hD l r
    walk_at "aa"
    refine a_allT hD r ?_
    walk_at "aa"
    exact ⟨t, rfl, fun H2 s2 => k H2 (sF.trans s2), .inl ⟨R, sF _ _ ht, ok.asc, by omega⟩⟩
def spIsLink : Sp := fun vs H Q _ => ∃ (v t : Addr) (l : Lnk) (R : List Str), vs = [.ref v, .ref t] ∧ LinkAt H (.ref v) l ∧ H t = some (.tup (R.map V.str)) ∧ LinkOk R l ∧ ∀ H', Same H H' → Q (.bl true) H'
abbrev N_is_link : List Str := ["value", "routers"]
theorem sc_is_link : FnScope N_is_link ["value", "routers"] (defScope QH.s_is_link) := ⟨rfl, rfl, rfl, by decide +kernel, rfl, by decide +kernel, by decide +kernel⟩
theorem D_is_link (T : Tx P w K mg base CN CC) (F : FunAt K mg "is_link" QH.s_is_link) (D_is_tuple_of : DefOk P w K mg base "is_tuple_of" ["value", "many"] (spIsTupleOf K) 1) (D_is_ascending_of : DefOk P w K mg base "is_ascending_of" ["value", "some"] spIsAscOf 2)
    (D_is_from : DefOk P w K mg base "is_from" ["value", "least"] spIsFrom 2) : DefOk P w K mg base "is_link" ["value", "routers"] spIsLink 3 := by
  refine mk_def F sc_is_link (fun _ _ _ _ _ _ us hl => match us, hl with | [_, _], _ => rfl) (fun vs H Q E h => by obtain ⟨v, t, l, R, rfl, _⟩ := h; rfl) (fun f cdv A outer s H vs Q E hr h => ?_)
  have nd := sc_is_link.nd
  obtain ⟨v, t, l, R, rfl, ⟨v', e, hv⟩, ht, ok, k⟩ := h
  cases e
  refine ⟨_, (pss_cons (ps_if (PW.pt (pw_or (pt_not (pt_val (pe_callD D_is_tuple_of (hr.mono (by decide)) (by rfl) (pa_cons (pv 0) (pa_cons (k_int T.c_LINK (by rfl)) pa_nil))))) (pw_or1 (pt_not (pt_val (pe_callD D_is_ascending_of (hr.mono (by decide)) (by rfl) (pa_cons (pe_slice (ki_slA (K := K)) (pv 0) po_none (po_some pe_int)) (pa_cons (pv 1) pa_nil)))))))) (pss_one (ps_ret pe_bl)) pss_nil)
    (pss_one (ps_ret (pe_and (pe_callD D_is_from (hr.mono (by decide)) (by rfl) (pa_cons (pe_ix (ki_ixT (K := K)) (pv 0) pe_int (fun _ _ => rfl)) (pa_cons pe_int pa_nil))) (pe_one (pe_callD D_is_from (hr.mono (by decide)) (by rfl) (pa_cons (pe_ix (ki_ixT (K := K)) (pv 0) pe_int (fun _ _ => rfl)) (pa_cons pe_int pa_nil)))))))), ?_⟩
  walk_at "aa"
  refine ⟨v, _, 4, rfl, hv, ?_⟩
  walk_at "aa"
  refine iteYN rfl ?_
  walk_at "aa"
  refine a_slT hv fun p H1 s1 h1 => ?_
  walk_at "aa"
  refine ⟨p, t, [l.a, l.b], R, rfl, h1, s1 _ _ ht, ?_, ?_, (by show 2 ≤ 100; decide), fun H2 s2 => ?_⟩
  · intro z hz
    rcases List.mem_cons.mp hz with e | hz
    · rw [e]; exact ok.ra
    · rw [List.mem_singleton.mp hz]; exact ok.rb
  · intro i x y hx hy
    match i with
    | 0 => cases hx; cases hy; exact ok.lt
    | i + 1 => simp at hy
  walk_at "aa"
  refine a_ixT (s2 _ _ (s1 _ _ hv)) rfl ?_
  walk_at "aa"
  refine ⟨_, _, rfl, ?_⟩
  rw [decide_eq_true ok.th]
  walk_at "aa"
  refine a_ixT (s2 _ _ (s1 _ _ hv)) rfl ?_
  walk_at "aa"
  refine ⟨_, _, rfl, ?_⟩
  rw [decide_eq_true ok.bk]
  exact k H2 (s1.trans s2)
def spAreLinks : Sp := fun vs H Q _ => ∃ (v t : Addr) (xs : List V) (ls : List Lnk) (R : List Str), vs = [.ref v, .ref t] ∧ H v = some (.tup xs) ∧ LinksAt H xs ls ∧ H t = some (.tup (R.map V.str)) ∧ LinksOk R ls ∧ ∀ H', Same H H' → Q (.bl true) H'
abbrev N_are_links : List Str := ["value", "routers", "link"]
theorem sc_are_links : FnScope N_are_links ["value", "routers"] (defScope QH.s_are_links) := ⟨rfl, rfl, rfl, by decide +kernel, rfl, by decide +kernel, by decide +kernel⟩
theorem D_are_links (T : Tx P w K mg base CN CC) (F : FunAt K mg "are_links" QH.s_are_links) (D_is_tuple_to : DefOk P w K mg base "is_tuple_to" ["value", "most"] (spIsTupleTo K) 1) (D_is_link : DefOk P w K mg base "is_link" ["value", "routers"] spIsLink 3)
    (D_are_ascending : DefOk P w K mg base "are_ascending" ["things"] spAreAsc 1) : DefOk P w K mg base "are_links" ["value", "routers"] spAreLinks 4 := by
  refine mk_def F sc_are_links (fun _ _ _ _ _ _ us hl => match us, hl with | [_, _], _ => rfl) (fun vs H Q E h => by obtain ⟨v, t, xs, ls, R, rfl, _⟩ := h; rfl) (fun f cdv A outer s H vs Q E hr h => ?_)
  have nd := sc_are_links.nd
  obtain ⟨v, t, xs, ls, R, rfl, hv, hls, ht, ok, k⟩ := h
  have hlen := hls.length
  have h16 := ok.most
  refine ⟨_, (pss_cons (ps_if (PW.pt (pw_or (pt_not (pt_val (pe_callD D_is_tuple_to (hr.mono (by decide)) (by rfl) (pa_cons (pv 0) (pa_cons (k_int T.c_MOST_LINKS (by rfl)) pa_nil))))) (pw_or1 (pt_not (pt_val (pe_callB (ki_all (K := K) rfl) (by rfl) T.f_all (by decide +kernel) (pa_cons (pe_lc (own := [("link", 2)]) (g := (gName 2)) (tt := tYes) rfl nd (ki_ptup (K := K) (pv 0)) (blkOk_by (by with_unfolding_all rfl)) (fun _ _ _ _ _ => (pg_name (i := 2) nd rfl (by first | exact Or.inl rfl | exact Or.inr rfl))) (fun _ _ _ _ _ => pts_nil) (fun _ _ _ _ _ => (pe_callD D_is_link (hr.mono (by decide)) (by rfl) (pa_cons (pv 2) (pa_cons (pv 1) pa_nil))))) pa_nil))))))) (pss_one (ps_ret pe_bl)) pss_nil)
    (pss_one (ps_ret (pe_callD D_are_ascending (hr.mono (by decide)) (by rfl) (pa_cons (pe_lc (own := [("link", 2)]) (g := (gName 2)) (tt := tYes) rfl nd (ki_ptup (K := K) (pv 0)) (blkOk_by (by with_unfolding_all rfl)) (fun _ _ _ _ _ => (pg_name (i := 2) nd rfl (by first | exact Or.inl rfl | exact Or.inr rfl))) (fun _ _ _ _ _ => pts_nil) (fun _ _ _ _ _ => (pe_slice (ki_slA (K := K)) (pv 2) po_none (po_some pe_int)))) pa_nil))))), ?_⟩
  walk_at "aa"
  refine ⟨v, _, 16, rfl, hv, ?_⟩
  walk_at "aa"
  refine iteYN (by omega) ?_
  walk_at "aa"
  refine ⟨v, rfl, ⟨_, SqT.of hv⟩, fun D nD => ?_⟩
  refine lc_go (it_tup hv) (Same.refl H) nD (fun i acc _ => ∀ v ∈ acc, v = V.bl true) (fun v hv => nomatch hv) (fun _ _ _ _ _ r => r) ?_ ?_
  · rintro i acc H1 x hi sF hD l r hx
    obtain ⟨y, e1, a, rfl, ha⟩ := paired_get hls hx
    walk_at "aa"
    refine ⟨rfl, ?_⟩
    walk_at "aa"
    refine ⟨a, t, y, R, rfl, ⟨a, rfl, sF _ _ ha⟩, sF _ _ ht, ok.each y (List.mem_of_getElem? e1), fun H2 s2 => ?_⟩
    exact lc_put (by omega) nD (fun _ _ _ _ _ r => r) (sF.trans s2) (s2 _ _ hD) l (tru_put r rfl)
  · intro acc H1 sF hD l r
    walk_at "aa"
    refine a_allT hD r ?_
    walk_at "aa"
    refine ⟨v, rfl, ⟨_, SqT.of (sF _ _ hv)⟩, fun D2 nD2 => ?_⟩
    refine lc_go (it_tup (sF _ _ hv)) (Same.refl H1) nD2 (fun i acc H => Paired (PairAt H) acc ((ls.take i).map Lnk.ab)) .nil (fun i acc H H' s r => paired_ts (fun _ _ _ _ s q => q.ts s) s r) ?_ ?_
    · rintro i acc H2 x hi sF2 hD l r hx
      obtain ⟨y, e1, a, rfl, ha⟩ := paired_get hls hx
      walk_at "aa"
      refine ⟨rfl, ?_⟩
      walk_at "aa"
      refine a_slT (sF2 _ _ (sF _ _ ha)) fun p H3 s3 h3 => ?_
      refine lc_put (by omega) nD2 (fun i acc H H' s r => paired_ts (fun _ _ _ _ s q => q.ts s) s r) (sF2.trans s3) (s3 _ _ hD) l ?_
      rw [List.take_succ, e1, List.map_append]
      exact (paired_ts (fun _ _ _ _ s q => q.ts s) (tsS s3) r).snoc ⟨p, rfl, h3⟩
    · intro acc H2 sF2 hD l r
      walk_at "aa"
      rw [List.take_of_length_le (by omega)] at r
      exact ⟨D2, rfl, fun H3 s3 => k H3 ((sF.trans sF2).trans s3), .inr ⟨acc, _, hD, r, ok.asc, by simp; omega⟩⟩
/-! ### Net -/
def spNetInit (CN : Addr) : Sp := fun vs H Q _ => ∃ (n dx r l : Addr) (xs : List V) (R : List Str) (ls : List Lnk), vs = [.ref n, .ref r, .ref l] ∧ H n = some (.ins CN dx []) ∧ H r = some (.tup (R.map V.str)) ∧ H l = some (.tup xs) ∧ LinksAt H xs ls ∧ RoutersOk R ∧ LinksOk R ls ∧
  ∀ H', (∀ b o, b ≠ n → H b = some o → H' b = some o) → H' n = some (.ins CN dx [("own_routers", .ref r), ("own_links", .ref l)]) → Q .non H'
abbrev N_Net_init : List Str := ["self", "routers", "links"]
theorem sc_Net_init : FnScope N_Net_init ["self", "routers", "links"] (defScope QH.s_Net_init) := ⟨rfl, rfl, rfl, by decide +kernel, rfl, by decide +kernel, by decide +kernel⟩
theorem put2 (r l : V) : putF ("own_links" : Str) l [(("own_routers" : Str), r)] = [(("own_routers" : Str), r), (("own_links" : Str), l)] := by
  have h : ¬ (("own_routers" : Str) = "own_links") := by decide +kernel
  show (if ("own_routers" : Str) = "own_links" then _ else (("own_routers" : Str), r) :: putF ("own_links" : Str) l []) = _
  rw [if_neg h] <;> rfl
theorem b_Net_init (T : Tx P w K mg base CN CC) (D_are_routers : DefOk P w K mg base "are_routers" ["value"] spAreRouters 2) (D_are_links : DefOk P w K mg base "are_links" ["value", "routers"] spAreLinks 4)
    {f : Addr} {fd : FuncData} (F : Fun K "__init__" "Net.__init__" QH.s_Net_init f fd) : FnOk P w K mg base CX0 5 f fd ["self", "routers", "links"] (spNetInit CN) := by
  refine F.ok sc_Net_init (fun vs H Q E h => by obtain ⟨n, dx, r, l, xs, R, ls, rfl, _⟩ := h; rfl) (fun cdv A outer s H vs Q E hr h => ?_)
  have nd := sc_Net_init.nd
  obtain ⟨n, dx, r, l, xs, R, ls, rfl, hn, hrr, hll, hls, ok1, ok2, k⟩ := h
  refine ⟨_, (pss_cons (ps_if (PW.pt (pw_or (pt_not (pt_val (pe_callD D_are_routers (hr.mono (by decide)) (by rfl) (pa_cons (pv 1) pa_nil)))) (pw_or1 (pt_not (pt_val (pe_callD D_are_links (hr.mono (by decide)) (by rfl) (pa_cons (pv 2) (pa_cons (pv 1) pa_nil)))))))) (pss_one ps_never) pss_nil)
    (pss_cons (ps_fld (pv 0) (pv 1) rfl)
    (pss_one (ps_fld (pv 0) (pv 2) rfl)))), ?_⟩
  walk_at "aa"
  refine ⟨r, R, rfl, hrr, ok1, fun H1 s1 => ?_⟩
  walk_at "aa"
  refine ⟨l, r, xs, ls, R, rfl, s1 _ _ hll, hls.ts (tsS s1), s1 _ _ hrr, ok2, fun H2 s2 => ?_⟩
  walk_at "aa"
  refine a_put (s2 _ _ (s1 _ _ hn)) T.net.cl T.net.nr (by decide) rfl ?_
  walk_at "aa"
  refine a_put upd_same T.net.cl T.net.nl (by show 1 < 1000; decide) (put2 _ _) ?_
  walk_at "aa"
  rw [upd_upd]
  exact k _ (fun b o hb e => by rw [upd_ne hb]; exact s2 _ _ (s1 _ _ e)) upd_same
end QB
set_option Elab.async false
set_option linter.all false
set_option maxRecDepth 100000
set_option maxHeartbeats 4000000

namespace QB
open PySem PySem.Spec L2
open PyProof.Rows (envOfC)
open PySem.PyData (strOk)
open RZ (Ty4 rIsTy call_isTy pi_zipA iZipA ItzT for_zipT for_zipL)
local macro_rules | `(tactic| walk_at "hp") => `(tactic| first | assumption | exact upd_same | (refine sg (by assumption) ?_; walk_at "hp"))
local macro_rules | `(tactic| walk_at "a") => `(tactic| first
  | with_reducible refine a_seq ?_ | with_reducible refine a_asg ?_ | with_reducible refine a_drop ?_ | with_reducible refine a_ret ?_ | with_reducible refine a_retN ?_
  | with_reducible refine a_ifS ?_ | with_reducible refine a_next ?_ | with_reducible refine a_gname ?_ | with_reducible refine a_nx ?_ | with_reducible refine a_rt ?_ | with_reducible refine a_bk ?_ | with_reducible refine a_ct ?_
  | ((with_reducible show tVar _ _ _ _); refine a_var rfl ?_) | with_reducible refine a_c ?_ | with_reducible refine a_op ?_ | with_reducible refine a_un ?_ | with_reducible refine a_cb ?_ | with_reducible refine a_nil ?_ | with_reducible refine a_cons ?_
  | with_reducible refine a_call ?_ | with_reducible refine a_meth ?_ | with_reducible refine a_make ?_ | with_reducible refine a_test ?_ | with_reducible refine a_tTest ?_ | with_reducible refine a_tand ?_ | with_reducible refine a_tor ?_ | with_reducible refine a_tnot ?_
  | with_reducible refine a_and ?_ | with_reducible refine a_or ?_ | with_reducible refine a_not ?_ | with_reducible refine a_if ?_ | with_reducible refine a_ri0 ?_ | with_reducible refine a_tup ?_ | with_reducible refine a_lst ?_
  | with_reducible refine a_bl ?_ | with_reducible refine a_sfld ?_ | with_reducible refine a_exI ?_ | with_reducible refine a_exZ ?_ | with_reducible refine a_chain ?_ | with_reducible refine a_lc ?_ | with_reducible refine a_yes ?_ | with_reducible refine a_gcons ?_ | with_reducible refine a_gnil ?_ | with_reducible refine w_list ?_ | with_reducible refine w_tup ?_ | with_reducible refine w_str ?_ | with_reducible refine w_rng1 ?_ | with_reducible refine w_zip ?_ | with_reducible refine w_zipA ?_
  | with_reducible refine a_tFld ?_ | with_reducible refine a_dget ?_ | with_reducible refine a_din ?_ | with_reducible refine a_dnin ?_ | with_reducible refine a_sl ?_ | with_reducible refine a_slNone ?_ | with_reducible refine a_slSome ?_
  | with_reducible refine a_isN ?_ | with_reducible refine a_notN ?_ | with_reducible refine a_eqI ?_ | with_reducible refine a_neI ?_ | with_reducible refine a_eqZ ?_ | with_reducible refine a_neZ ?_ | with_reducible refine a_ltZ ?_ | with_reducible refine a_int ?_ | with_reducible refine a_intB ?_ | with_reducible refine a_abs ?_ | with_reducible refine a_max2 ?_ | with_reducible refine a_min2 ?_ | with_reducible refine a_bm ?_
  | ((with_reducible show rLenQ _ _ _ _); first | refine a_lenT (by walk_at "hp") ?_ | refine a_lenL (by walk_at "hp") ?_)
  | with_reducible refine a_prsC ?_ | with_reducible refine a_prsN ?_ | with_reducible refine a_for ?_ | with_reducible refine a_dput ?_ | with_reducible refine w_keys ?_ | with_reducible refine w_listT ?_
  | with_reducible refine QB.a_rU ?_ | with_reducible refine QB.a_cKw ?_ | with_reducible refine QB.a_star ?_ | with_reducible refine QB.a_dget2 ?_
  | with_reducible refine QB.a_par ?_ | with_reducible refine QB.a_par3 ?_
  | with_reducible refine QB.a_srt ?_
  | with_reducible refine QB.a_dc ?_
  | with_reducible refine iteT ?_ | with_reducible refine iteNT ?_ | with_reducible refine iteNF ?_ | with_reducible refine iteF ?_ | with_reducible refine a_prop ?_)
local macro_rules | `(tactic| walk_at "aa") => `(tactic| (walk_at "a"; repeat walk_at "a"))

variable {P : Program} {w : World} {K : PySem.W.Frag} {mg : Str → Option Value} {base : Heap} {CN CC : Addr}
theorem lk_hd {k : Str} {v : V} {l : List (Str × V)} : ((k, v) :: l).lookup k = some v := by simp [List.lookup_cons]
theorem lk_tl {k j : Str} {v : V} {l : List (Str × V)} {o : Option V} (n : (k == j) = false) (h : l.lookup k = o) : ((j, v) :: l).lookup k = o := by rw [List.lookup_cons, n]; exact h
/-- net.routers, net.links -/
theorem n_routers {H : Hp} {n : Addr} {R : List Str} {ls : List Lnk} {Q : VK} (h : NetAt CN H n R ls) (q : ∀ r, H r = some (.tup (R.map V.str)) → Q (.ref r) H) :
    ∃ a dx fs, V.ref n = .ref a ∧ H a = some (.ins CN dx fs) ∧ getSp CN "own_routers" [.ref a] H Q E0 := by
  obtain ⟨dx, r, l, vs, h1, h2, h3, h4⟩ := h.at_
  exact ⟨n, dx, _, rfl, h1, n, dx, _, _, rfl, h1, lk_hd, q r h2⟩
theorem n_links {H : Hp} {n : Addr} {R : List Str} {ls : List Lnk} {Q : VK} (h : NetAt CN H n R ls) (q : ∀ l vs, H l = some (.tup vs) → LinksAt H vs ls → Q (.ref l) H) :
    ∃ a dx fs, V.ref n = .ref a ∧ H a = some (.ins CN dx fs) ∧ getSp CN "own_links" [.ref a] H Q E0 := by
  obtain ⟨dx, r, l, vs, h1, h2, h3, h4⟩ := h.at_
  exact ⟨n, dx, _, rfl, h1, n, dx, _, _, rfl, h1, lk_tl (by decide +kernel) lk_hd, q l vs h3 h4⟩
/-- .own_routers, .own_links -/
theorem f_routers (N : NetC P w K mg base CN) {H : Hp} {n : Addr} {R : List Str} {ls : List Lnk} {Q : VK} (h : NetAt CN H n R ls) (q : ∀ r, H r = some (.tup (R.map V.str)) → Q (.ref r) H) :
    ∃ b C dx fs v, V.ref n = .ref b ∧ H b = some (.ins C dx fs) ∧ Cls K C ∧ NoAttr K C "own_routers" ∧ fs.lookup ("own_routers" : Str) = some v ∧ Q v H := by
  obtain ⟨dx, r, l, vs, h1, h2, h3, h4⟩ := h.at_
  exact a_fld h1 N.cl N.nr lk_hd (q r h2)
theorem f_links (N : NetC P w K mg base CN) {H : Hp} {n : Addr} {R : List Str} {ls : List Lnk} {Q : VK} (h : NetAt CN H n R ls) (q : ∀ l vs, H l = some (.tup vs) → LinksAt H vs ls → Q (.ref l) H) :
    ∃ b C dx fs v, V.ref n = .ref b ∧ H b = some (.ins C dx fs) ∧ Cls K C ∧ NoAttr K C "own_links" ∧ fs.lookup ("own_links" : Str) = some v ∧ Q v H := by
  obtain ⟨dx, r, l, vs, h1, h2, h3, h4⟩ := h.at_
  exact a_fld h1 N.cl N.nl (lk_tl (by decide +kernel) lk_hd) (q l vs h3 h4)
/-- a new net -/
theorem mk_net {H : Hp} {r l : Addr} {xs : List V} {R : List Str} {ls : List Lnk} {Q : VK} (hr : H r = some (.tup (R.map V.str))) (hl : H l = some (.tup xs)) (hls : LinksAt H xs ls) (o1 : RoutersOk R) (o2 : LinksOk R ls) (q : ∀ n H', Same H H' → NetAt CN H' n R ls → Q (.ref n) H') :
    ∀ x dx, H x = none → H dx = none → dx ≠ x → spNetInit CN [.ref x, .ref r, .ref l] (upd (upd H dx (.own x)) x (.ins CN dx [])) (fun v H2 => v = .non ∧ Q (.ref x) H2) E0 := by
  intro x dx hx hdx ne
  have s1 : Same H (upd H dx (.own x)) := same_new hdx
  have s2 : Same H (upd (upd H dx (.own x)) x (.ins CN dx [])) := s1.trans (same_new (by rw [upd_ne (Ne.symm ne)]; exact hx))
  refine ⟨x, dx, r, l, xs, R, ls, rfl, upd_same, s2 _ _ hr, s2 _ _ hl, hls.ts (tsS s2), o1, o2, fun H' k1 k2 => ?_⟩
  have s3 : Same H H' := fun b o e => k1 b o (ne_of_none e hx) (s2 _ _ e)
  exact ⟨rfl, q x H' s3 ⟨dx, r, l, xs, k2, s3 _ _ hr, s3 _ _ hl, hls.ts (tsS s3)⟩⟩
def spCheckRouters (CN : Addr) : Sp := fun vs H Q _ => ∃ (n t : Addr) (ss R : List Str) (ls : List Lnk), vs = [.ref n, .ref t] ∧ NetAt CN H n R ls ∧ H t = some (.tup (ss.map V.str)) ∧ (∀ z ∈ ss, z ∈ R) ∧ ∀ H', Same H H' → Q .non H'
abbrev N_check_routers : List Str := ["net", "values", "value"]
theorem sc_check_routers : FnScope N_check_routers ["net", "values"] (defScope QH.s_check_routers) := ⟨rfl, rfl, rfl, by decide +kernel, rfl, by decide +kernel, by decide +kernel⟩
theorem D_check_routers (T : Tx P w K mg base CN CC) (F : FunAt K mg "check_routers" QH.s_check_routers) (D_is_one_of : DefOk P w K mg base "is_one_of" ["value", "some"] (spIsOneOf K) 1) : DefOk P w K mg base "check_routers" ["net", "values"] (spCheckRouters CN) 3 := by
  refine mk_def F sc_check_routers (fun _ _ _ _ _ _ us hl => match us, hl with | [_, _], _ => rfl) (fun vs H Q E h => by obtain ⟨n, t, ss, R, ls, rfl, _⟩ := h; rfl) (fun f cdv A outer s H vs Q E hr h => ?_)
  have nd := sc_check_routers.nd
  obtain ⟨n, t, ss, R, ls, rfl, hn, ht, hin, k⟩ := h
  refine ⟨_, (pss_one (ps_for PassesOwn.never rfl (ki_ptup (K := K) (pv 1)) (pg_name (i := 2) nd rfl (by first | exact Or.inl rfl | exact Or.inr rfl)) (pss_one (ps_if (pt_not (pt_val (pe_callD D_is_one_of (hr.mono (by decide)) (by rfl) (pa_cons (pv 2) (pa_cons (pe_routers T.net (hr.mono (by decide)) (pv 0) rfl) pa_nil))))) (pss_one ps_never) pss_nil)))), ?_⟩
  walk_at "aa"
  refine ⟨t, rfl, ⟨_, SqT.of ht⟩, ?_⟩
  refine for_go (it_tup ht) (fun i σ H' => Same H H' ∧ ∃ q, σ = [some (.ref n), some (.ref t), q]) ⟨Same.refl H, _, rfl⟩ (fun _ _ _ h => h.1) (fun _ _ _ _ s h => ⟨h.1.trans s, h.2⟩) ?_ ?_
  · rintro i x σ H1 hi ⟨sF, q, rfl⟩ hx
    rw [List.getElem?_map] at hx
    obtain ⟨z, e1, rfl⟩ := Option.map_eq_some_iff.mp hx
    refine a_gname ?_
    walk_at "aa"
    refine n_routers (hn.same sF) fun r hr => ?_
    refine ⟨z, r, R, rfl, hr, ?_⟩
    rw [decide_eq_true (hin z (List.mem_of_getElem? e1))]
    walk_at "aa"
    exact ⟨sF, _, rfl⟩
  · rintro σ H1 ⟨sF, q, rfl⟩
    exact k H1 sF
def spLinkOf (CN : Addr) : Sp := fun vs H Q _ => ∃ (n : Addr) (R : List Str) (ls : List Lnk) (l : Lnk), vs = [.ref n, .str l.a, .str l.b] ∧ NetAt CN H n R ls ∧ (ls.map Lnk.ab).Nodup ∧ l ∈ ls ∧ ∀ H' v, Same H H' → LinkAt H' v l → Q v H'
theorem ab_inj {ls : List Lnk} (nd : (ls.map Lnk.ab).Nodup) {k l : Lnk} (hk : k ∈ ls) (hl : l ∈ ls) (e : k.ab = l.ab) : k = l := by
  induction ls with
  | nil => cases hk
  | cons x ls ih =>
    rw [List.map_cons, List.nodup_cons] at nd
    rcases List.mem_cons.mp hk with rfl | hk'
    · rcases List.mem_cons.mp hl with rfl | hl'
      · rfl
      · exact absurd (List.mem_map.mpr ⟨l, hl', e.symm⟩) nd.1
    · rcases List.mem_cons.mp hl with rfl | hl'
      · exact absurd (List.mem_map.mpr ⟨k, hk', e⟩) nd.1
      · exact ih nd.2 hk' hl'
abbrev N_link_of : List Str := ["net", "a", "b", "link"]
theorem sc_link_of : FnScope N_link_of ["net", "a", "b"] (defScope QH.s_link_of) := ⟨rfl, rfl, rfl, by decide +kernel, rfl, by decide +kernel, by decide +kernel⟩
theorem D_link_of (T : Tx P w K mg base CN CC) (F : FunAt K mg "link_of" QH.s_link_of) (D_is_one_of : DefOk P w K mg base "is_one_of" ["value", "some"] (spIsOneOf K) 1) : DefOk P w K mg base "link_of" ["net", "a", "b"] (spLinkOf CN) 3 := by
  refine mk_def F sc_link_of (fun _ _ _ _ _ _ us hl => match us, hl with | [_, _, _], _ => rfl) (fun vs H Q E h => by obtain ⟨n, R, ls, l, rfl, _⟩ := h; rfl) (fun f cdv A outer s H vs Q E hr h => ?_)
  have nd := sc_link_of.nd
  obtain ⟨n, R, ls, l, rfl, hn, hnd, hl, k⟩ := h
  refine ⟨_, (pss_cons (ps_for PassesOwn.never rfl (ki_ptup (K := K) (pe_links T.net (hr.mono (by decide)) (pv 0) rfl)) (pg_name (i := 3) nd rfl (by first | exact Or.inl rfl | exact Or.inr rfl)) (pss_one (ps_if (PW.pt (pw_and (pt_val (pe_callD D_is_one_of (hr.mono (by decide)) (by rfl) (pa_cons (pv 1) (pa_cons (pe_tup (pa_cons (pe_ix (ki_ixT (K := K)) (pv 3) pe_int (fun _ _ => rfl)) pa_nil)) pa_nil)))) (pw_and1 (pt_val (pe_callD D_is_one_of (hr.mono (by decide)) (by rfl) (pa_cons (pv 2) (pa_cons (pe_tup (pa_cons (pe_ix (ki_ixT (K := K)) (pv 3) pe_int (fun _ _ => rfl)) pa_nil)) pa_nil))))))) (pss_one (ps_ret (pv 3))) pss_nil)))
    (pss_one ps_never)), ?_⟩
  walk_at "aa"
  refine n_links hn fun la vs hla hls => ?_
  refine ⟨la, rfl, ⟨_, SqT.of hla⟩, ?_⟩
  have hlen := hls.length
  refine for_go (it_tup hla) (fun i σ H' => (Same H H' ∧ l ∉ ls.take i) ∧ ∃ q, σ = [some (.ref n), some (.str l.a), some (.str l.b), q]) ⟨⟨Same.refl H, by simp⟩, _, rfl⟩ (fun _ _ _ h => h.1.1) (fun _ _ _ _ s h => ⟨⟨h.1.1.trans s, h.1.2⟩, h.2⟩) ?_ ?_
  · rintro i x σ H1 hi ⟨⟨sF, hno⟩, q, rfl⟩ hx
    obtain ⟨y, e1, a, rfl, ha⟩ := paired_get hls hx
    have hy := List.mem_of_getElem? e1
    refine a_gname ?_
    have next : ∀ H', Same H1 H' → y ≠ l → l ∉ ls.take (i + 1) := fun H' s ne hm => by
      rw [List.take_succ, e1] at hm
      rcases List.mem_append.mp hm with hm | hm
      · exact hno hm
      · simp at hm; exact ne hm.symm
    walk_at "aa"
    refine a_ixT (sF _ _ ha) rfl ?_
    walk_at "aa"
    refine ⟨by show 1 ≤ sizeLine; decide, nwN fun t1 H2 n2 s2 h2 => ?_⟩
    refine ⟨l.a, t1, [y.a], rfl, h2, ?_⟩
    refine a_bl ?_
    refine iteD (fun ea => ?_) (fun ea => ?_)
    · walk_at "aa"
      refine a_ixT (s2 _ _ (sF _ _ ha)) rfl ?_
      walk_at "aa"
      refine ⟨by show 1 ≤ sizeLine; decide, nwN fun t3 H4 n4 s4 h4 => ?_⟩
      refine ⟨l.b, t3, [y.b], rfl, h4, ?_⟩
      refine a_bl ?_
      refine iteD (fun eb => ?_) (fun eb => ?_)
      · have e : y = l := ab_inj hnd hy hl (by
          rw [List.mem_singleton] at ea eb
          show (y.a, y.b) = (l.a, l.b)
          rw [ea, eb])
        subst e
        walk_at "aa"
        exact k _ _ (sF.trans (s2.trans s4)) ⟨a, rfl, s4 _ _ (s2 _ _ (sF _ _ ha))⟩
      · walk_at "aa"
        exact ⟨⟨sF.trans (s2.trans s4), next H4 (s2.trans s4) (fun e => eb (by rw [e]; exact List.mem_singleton.mpr rfl))⟩, _, rfl⟩
    · walk_at "aa"
      exact ⟨⟨sF.trans s2, next H2 s2 (fun e => ea (by rw [e]; exact List.mem_singleton.mpr rfl))⟩, _, rfl⟩
  · rintro σ H1 ⟨⟨sF, hno⟩, q, rfl⟩
    rw [List.take_of_length_le (by omega)] at hno
    exact absurd hl hno
end QB
set_option Elab.async false
set_option linter.all false
set_option maxRecDepth 100000
set_option maxHeartbeats 4000000

namespace QB
open PySem PySem.Spec L2
open PyProof.Rows (envOfC)
open PySem.PyData (strOk)
open RZ (Ty4 rIsTy call_isTy pi_zipA iZipA ItzT for_zipT for_zipL)
local macro_rules | `(tactic| walk_at "hp") => `(tactic| first | assumption | exact upd_same | (refine sg (by assumption) ?_; walk_at "hp"))
local macro_rules | `(tactic| walk_at "a") => `(tactic| first
  | with_reducible refine a_seq ?_ | with_reducible refine a_asg ?_ | with_reducible refine a_drop ?_ | with_reducible refine a_ret ?_ | with_reducible refine a_retN ?_
  | with_reducible refine a_ifS ?_ | with_reducible refine a_next ?_ | with_reducible refine a_gname ?_ | with_reducible refine a_nx ?_ | with_reducible refine a_rt ?_ | with_reducible refine a_bk ?_ | with_reducible refine a_ct ?_
  | ((with_reducible show tVar _ _ _ _); refine a_var rfl ?_) | with_reducible refine a_c ?_ | with_reducible refine a_op ?_ | with_reducible refine a_un ?_ | with_reducible refine a_cb ?_ | with_reducible refine a_nil ?_ | with_reducible refine a_cons ?_
  | with_reducible refine a_call ?_ | with_reducible refine a_meth ?_ | with_reducible refine a_make ?_ | with_reducible refine a_test ?_ | with_reducible refine a_tTest ?_ | with_reducible refine a_tand ?_ | with_reducible refine a_tor ?_ | with_reducible refine a_tnot ?_
  | with_reducible refine a_and ?_ | with_reducible refine a_or ?_ | with_reducible refine a_not ?_ | with_reducible refine a_if ?_ | with_reducible refine a_ri0 ?_ | with_reducible refine a_tup ?_ | with_reducible refine a_lst ?_
  | with_reducible refine a_bl ?_ | with_reducible refine a_sfld ?_ | with_reducible refine a_exI ?_ | with_reducible refine a_exZ ?_ | with_reducible refine a_chain ?_ | with_reducible refine a_lc ?_ | with_reducible refine a_yes ?_ | with_reducible refine a_gcons ?_ | with_reducible refine a_gnil ?_ | with_reducible refine w_list ?_ | with_reducible refine w_tup ?_ | with_reducible refine w_str ?_ | with_reducible refine w_rng1 ?_ | with_reducible refine w_zip ?_ | with_reducible refine w_zipA ?_
  | with_reducible refine a_tFld ?_ | with_reducible refine a_dget ?_ | with_reducible refine a_din ?_ | with_reducible refine a_dnin ?_ | with_reducible refine a_sl ?_ | with_reducible refine a_slNone ?_ | with_reducible refine a_slSome ?_
  | with_reducible refine a_isN ?_ | with_reducible refine a_notN ?_ | with_reducible refine a_eqI ?_ | with_reducible refine a_neI ?_ | with_reducible refine a_eqZ ?_ | with_reducible refine a_neZ ?_ | with_reducible refine a_ltZ ?_ | with_reducible refine a_int ?_ | with_reducible refine a_intB ?_ | with_reducible refine a_abs ?_ | with_reducible refine a_max2 ?_ | with_reducible refine a_min2 ?_ | with_reducible refine a_bm ?_
  | ((with_reducible show rLenQ _ _ _ _); first | refine a_lenT (by walk_at "hp") ?_ | refine a_lenL (by walk_at "hp") ?_)
  | with_reducible refine a_prsC ?_ | with_reducible refine a_prsN ?_ | with_reducible refine a_for ?_ | with_reducible refine a_dput ?_ | with_reducible refine w_keys ?_ | with_reducible refine w_listT ?_
  | with_reducible refine QB.a_rU ?_ | with_reducible refine QB.a_cKw ?_ | with_reducible refine QB.a_star ?_ | with_reducible refine QB.a_dget2 ?_
  | with_reducible refine QB.a_par ?_ | with_reducible refine QB.a_par3 ?_
  | with_reducible refine QB.a_srt ?_
  | with_reducible refine QB.a_dc ?_
  | with_reducible refine iteT ?_ | with_reducible refine iteNT ?_ | with_reducible refine iteNF ?_ | with_reducible refine iteF ?_ | with_reducible refine a_prop ?_)
local macro_rules | `(tactic| walk_at "aa") => `(tactic| (walk_at "a"; repeat walk_at "a"))

variable {P : Program} {w : World} {K : PySem.W.Frag} {mg : Str → Option Value} {base : Heap} {CN CC : Addr}
theorem dt_putNew {H : Hp} {p t : Addr} {a b : Str} {v : V} {kvs : List (List Key × V)} {k : L2.St → Hp → Prop} {σ : L2.St} (h : H p = some (.dT kvs)) (ht : H t = some (.tup [.str a, .str b])) (n : valV kvs (pk a b) = none) (hl : kvs.length < 1000)
    (q : k σ (upd H p (.dT (kvs ++ [(pk a b, v)])))) : ∃ c H4, V.ref p = .ref c ∧ DPut H c (.ref t) v H4 ∧ k σ H4 := by
  refine ⟨p, _, rfl, .inr ⟨kvs, pk a b, t, h, rfl, ht, Nat.lt_trans hl (by decide), rfl⟩, ?_⟩
  rw [putK_new v n]; exact q
theorem lens_new {R : List Str} {ls : List Lnk} {l : Lnk} {i : Nat} (h : LinksOk R ls) (e : ls[i]? = some l) : arcs (ls.take i) l.a l.b = none ∧ arcs (ls.take i) l.b l.a = none ∧ l.a ≠ l.b := by
  have hl := List.mem_of_getElem? e
  have hs := sub_links h (List.take_sublist i ls)
  have lt := (h.each l hl).lt
  have ni : ∀ m ∈ ls.take i, m.ab ≠ l.ab := by
    intro m hm q
    obtain ⟨j, hj, rfl⟩ := List.getElem_of_mem hm
    obtain ⟨hi, rfl⟩ := List.getElem?_eq_some_iff.mp e
    rw [List.length_take] at hj
    rw [List.getElem_take] at q
    exact List.pairwise_iff_getElem.mp h.nd j i (by simp; omega) (by simp; omega) (by omega) (by simpa using q)
  refine ⟨?_, ?_, ltS_ne lt⟩
  · refine Option.eq_none_iff_forall_ne_some.mpr fun v q => ?_
    obtain ⟨m, hm, ⟨q, _⟩ | ⟨q, _⟩⟩ := (arcs_iff hs).mp q
    · exact ni m hm q.symm
    · obtain ⟨q1, q2⟩ := Prod.mk.inj q
      have := (hs.each m hm).lt
      rw [← q1, ← q2] at this
      exact ltS_asym lt this
  · refine Option.eq_none_iff_forall_ne_some.mpr fun v q => ?_
    obtain ⟨m, hm, ⟨q, _⟩ | ⟨q, _⟩⟩ := (arcs_iff hs).mp q
    · obtain ⟨q1, q2⟩ := Prod.mk.inj q
      have := (hs.each m hm).lt
      rw [← q1, ← q2] at this
      exact ltS_asym lt this
    · obtain ⟨q1, q2⟩ := Prod.mk.inj q
      refine ni m hm ?_
      show (m.a, m.b) = (l.a, l.b)
      rw [q1, q2]
def spLengthsOf (CN : Addr) : Sp := fun vs H Q _ => ∃ (n : Addr) (R : List Str) (ls : List Lnk), vs = [.ref n] ∧ NetAt CN H n R ls ∧ LinksOk R ls ∧ ∀ p H', Same H H' → LenAt H' p ls → Q (.ref p) H'
abbrev N_lengths_of : List Str := ["net", "found", "a", "b", "there", "back"]
theorem sc_lengths_of : FnScope N_lengths_of ["net"] (defScope QH.s_lengths_of) := ⟨rfl, rfl, rfl, by decide +kernel, rfl, by decide +kernel, by decide +kernel⟩
theorem D_lengths_of (T : Tx P w K mg base CN CC) (F : FunAt K mg "lengths_of" QH.s_lengths_of) : DefOk P w K mg base "lengths_of" ["net"] (spLengthsOf CN) 3 := by
  refine mk_def F sc_lengths_of (fun _ _ _ _ _ _ us hl => match us, hl with | [_], _ => rfl) (fun vs H Q E h => by obtain ⟨n, R, ls, rfl, _⟩ := h; rfl) (fun f cdv A outer s H vs Q E hr h => ?_)
  have nd := sc_lengths_of.nd
  obtain ⟨n, R, ls, rfl, hn, ok, k⟩ := h
  have h16 := ok.most
  refine ⟨_, (pss_cons (ps_set (i := 1) nd rfl (by first | exact Or.inl rfl | exact Or.inr rfl) pe_dnewT)
    (pss_cons (ps_for PassesOwn.never rfl (ki_ptup (K := K) (pe_links T.net (hr.mono (by decide)) (pv 0) rfl)) (ki_gtup (K := K) rfl (pgs_cons (pg_name (i := 2) nd rfl (by first | exact Or.inl rfl | exact Or.inr rfl)) (pgs_cons (pg_name (i := 3) nd rfl (by first | exact Or.inl rfl | exact Or.inr rfl)) (pgs_cons (pg_name (i := 4) nd rfl (by first | exact Or.inl rfl | exact Or.inr rfl)) (pgs_cons (pg_name (i := 5) nd rfl (by first | exact Or.inl rfl | exact Or.inr rfl)) pgs_nil))))) (pss_cons (ps_dput (hu_of hr) (pv 1) (pe_tup (pa_cons (pv 2) (pa_cons (pv 3) pa_nil))) (pv 4) rfl)
    (pss_one (ps_dput (hu_of hr) (pv 1) (pe_tup (pa_cons (pv 3) (pa_cons (pv 2) pa_nil))) (pv 5) rfl))))
    (pss_one (ps_ret (pv 1))))), ?_⟩
  walk_at "aa"
  refine a_newT fun p H1 np s1 h1 => ?_
  walk_at "aa"
  refine n_links (hn.same s1) fun la vs hla hls => ?_
  refine ⟨la, rfl, ⟨_, SqT.of hla⟩, ?_⟩
  have hlen := hls.length
  have pla : la ≠ p := by rintro rfl; rw [h1] at hla; cases hla
  have dr : ∀ a xs, H1 a = some (.tup xs) → drop p H1 a = some (.tup xs) := fun a xs e => by rw [drop_ne (by rintro rfl; rw [h1] at e; cases e)]; exact e
  have sd : Same H (drop p H1) := fun b o e => by rw [drop_ne (ne_of_none e np)]; exact s1 _ _ e
  refine for_go (it_tup (dr _ _ hla)) (fun i σ H' => (Same (drop p H1) H' ∧ H' p = some (.dT (lenV (ls.take i)))) ∧ ∃ q2 q3 q4 q5, σ = [some (.ref n), some (.ref p), q2, q3, q4, q5]) ⟨⟨drop_le, h1⟩, _, _, _, _, rfl⟩ (fun _ _ _ h => h.1.1) (fun _ _ _ _ s h => ⟨⟨h.1.1.trans s, s _ _ h.1.2⟩, h.2⟩) ?_ ?_
  · rintro i x σ H2 hi ⟨⟨sF, hp⟩, q2, q3, q4, q5, rfl⟩ hx
    obtain ⟨l, e1, a, rfl, ha⟩ := paired_get hls hx
    obtain ⟨z1, z2, z3⟩ := lens_new ok e1
    have hi' : i < ls.length := by omega
    refine a_gtup (sF _ _ (dr _ _ ha)) rfl ?_
    walk_at "aa"
    refine ⟨by show 2 ≤ sizeLine; decide, fun t1 n1 => ?_⟩
    have s3 := same_new (o := .tup [.str l.a, .str l.b]) n1
    refine dt_putNew (s3 _ _ hp) upd_same (by rw [val_lenV, z1]; rfl) (by rw [length_lenV, List.length_take]; omega) ?_
    have s4 : Same (drop p H1) (upd (upd H2 t1 (.tup [.str l.a, .str l.b])) p (.dT (lenV (ls.take i) ++ [(pk l.a l.b, .int l.th)]))) := same_mut (sF.trans s3) drop_same
    walk_at "aa"
    refine ⟨by show 2 ≤ sizeLine; decide, fun t5 n5 => ?_⟩
    have s5 := same_new (o := .tup [.str l.b, .str l.a]) n5
    refine dt_putNew (s5 _ _ upd_same) upd_same ?_ (by rw [List.length_append, length_lenV, List.length_take]; simp; omega) ?_
    · refine (valV_snoc (κ := List Key) (pk l.a l.b) (pk l.b l.a) (.int l.th) (lenV (ls.take i)) (by rw [val_lenV, z1]; rfl)).trans ?_
      rw [if_neg (fun q => z3 (pk_inj.mp q).1.symm), val_lenV, z2]
      rfl
    refine ⟨⟨same_mut (s4.trans s5) drop_same, ?_⟩, _, _, _, _, rfl⟩
    rw [upd_same, List.take_succ, e1]
    show some (HO.dT _) = some (HO.dT (lenV (ls.take i ++ [l])))
    rw [lenV_snoc]
  · rintro σ H2 ⟨⟨sF, hp⟩, q2, q3, q4, q5, rfl⟩
    rw [List.take_of_length_le (by omega)] at hp
    walk_at "aa"
    exact k p H2 (sd.trans sF) hp
def spWithout (CN : Addr) : Sp := fun vs H Q _ => ∃ (n : Addr) (R : List Str) (ls : List Lnk) (l : Lnk), vs = [.ref n, .str l.a, .str l.b] ∧ NetAt CN H n R ls ∧ RoutersOk R ∧ LinksOk R ls ∧ l ∈ ls ∧ ∀ m H', Same H H' → NetAt CN H' m R (less ls l.a l.b) → Q (.ref m) H'
abbrev N_Net_without : List Str := ["self", "a", "b", "link"]
theorem sc_Net_without : FnScope N_Net_without ["self", "a", "b"] (defScope QH.s_Net_without) := ⟨rfl, rfl, rfl, by decide +kernel, rfl, by decide +kernel, by decide +kernel⟩
theorem b_Net_without (T : Tx P w K mg base CN CC) (D_link_of : DefOk P w K mg base "link_of" ["net", "a", "b"] (spLinkOf CN) 3) (C_Net : MakeOk P w K mg base "Net" CN ["self", "routers", "links"] (spNetInit CN) 5)
    {f : Addr} {fd : FuncData} (F : Fun K "without" "Net.without" QH.s_Net_without f fd) : FnOk P w K mg base CX0 7 f fd ["self", "a", "b"] (spWithout CN) := by
  refine F.ok sc_Net_without (fun vs H Q E h => by obtain ⟨n, R, ls, l, rfl, _⟩ := h; rfl) (fun cdv A outer s H vs Q E hr h => ?_)
  have nd := sc_Net_without.nd
  obtain ⟨n, R, ls, l, rfl, hn, ok1, ok2, hl, k⟩ := h
  have h16 := ok2.most
  refine ⟨_, (pss_cons (ps_expr (pe_callD D_link_of (hr.mono (by decide)) (by rfl) (pa_cons (pv 0) (pa_cons (pv 1) (pa_cons (pv 2) pa_nil)))))
    (pss_one (ps_ret (pe_makeD C_Net (hr.mono (by decide)) (by rfl) (pa_cons (ki_fld (K := K) (pv 0) rfl) (pa_cons (pe_callTy (ki_tuple (K := K)) (by rfl) T.f_tuple (by decide +kernel) (pa_cons (pe_lc (own := [("link", 3)]) (g := (gName 3)) rfl nd (ki_ptup (K := K) (ki_fld (K := K) (pv 0) rfl)) (blkOk_by (by with_unfolding_all rfl)) (fun _ _ _ _ _ => (pg_name (i := 3) nd rfl (by first | exact Or.inl rfl | exact Or.inr rfl))) (fun _ _ _ _ _ => (pts_one (pt_cmpR (ki_neD (K := K) hr.units) (pe_slice (ki_slA (K := K)) (pv 3) po_none (po_some pe_int)) (pe_tup (pa_cons (pv 1) (pa_cons (pv 2) pa_nil))) (nomark _)))) (fun _ _ _ _ _ => (pv 3))) pa_nil)) pa_nil)))))), ?_⟩
  walk_at "aa"
  refine ⟨n, R, ls, l, rfl, hn, ok2.nd, hl, fun H1 v s1 hv => ?_⟩
  walk_at "aa"
  obtain ⟨dx, r, la, vs, hn1, hr, hla, hls⟩ := (hn.same s1).at_
  refine ⟨n, CN, dx, _, _, rfl, hn1, T.net.cl, T.net.nr, lk_hd, ?_⟩
  walk_at "aa"
  refine ⟨n, CN, dx, _, _, rfl, hn1, T.net.cl, T.net.nl, (lk_tl (by decide +kernel) lk_hd), ?_⟩
  refine ⟨la, rfl, ⟨_, SqT.of hla⟩, fun D nD => ?_⟩
  have hlen := hls.length
  refine lc_go (it_tup hla) (Same.refl H1) nD (fun i acc H => LinksAt H acc (less (ls.take i) l.a l.b)) .nil (fun i acc H H' s r => r.ts s) ?_ ?_
  · rintro i acc H2 x hi sF hD lc r hx
    obtain ⟨y, e1, a, rfl, ha⟩ := paired_get hls hx
    have hy := ok2.each y (List.mem_of_getElem? e1)
    have hl' := ok2.each l hl
    have stR : ∀ i acc H H', Tsm H H' → LinksAt H acc (less (ls.take i) l.a l.b) → LinksAt H' acc (less (ls.take i) l.a l.b) := fun i acc H H' s r => r.ts s
    walk_at "aa"
    refine ⟨rfl, ?_⟩
    walk_at "aa"
    refine a_slT (sF _ _ ha) fun p H3 s3 h3 => ?_
    walk_at "aa"
    refine ⟨by show 2 ≤ sizeLine; decide, nw2 fun t H4 n4 s4 h4 => ?_⟩
    refine a_neT (xs := [y.a, y.b]) (ys := [l.a, l.b]) (s4 _ _ h3) h4 (fun z hz => ?_) (fun z hz => ?_) ?_
    · rcases List.mem_cons.mp hz with rfl | hz
      · exact (hy.na ok1).ok
      · rw [List.mem_singleton.mp hz]; exact (hy.nb ok1).ok
    · rcases List.mem_cons.mp hz with rfl | hz
      · exact (hl'.na ok1).ok
      · rw [List.mem_singleton.mp hz]; exact (hl'.nb ok1).ok
    refine a_bl ?_
    have s5 := s3.trans s4
    refine iteDN (fun c => ?_) (fun c => ?_)
    · walk_at "aa"
      refine lc_put (by omega) nD stR (sF.trans s5) (s5 _ _ hD) lc ?_
      rw [List.take_succ, e1]
      show LinksAt H4 _ (less (ls.take i ++ [y]) l.a l.b)
      rw [less_snoc, if_neg c]
      exact (r.ts (tsS s5)).snoc ⟨a, rfl, s5 _ _ (sF _ _ ha)⟩
    · refine lc_skip (sF.trans s5) (s5 _ _ hD) lc ?_
      rw [List.take_succ, e1]
      show LinksAt H4 _ (less (ls.take i ++ [y]) l.a l.b)
      rw [less_snoc, if_pos c, List.append_nil]
      exact r.ts (tsS s5)
  · intro acc H2 sF hD lc r
    rw [List.take_of_length_le (by omega)] at r
    walk_at "aa"
    refine a_tupL hD fun t H3 n3 s3 h3 => ?_
    walk_at "aa"
    exact mk_net (s3 _ _ (sF _ _ hr)) h3 (r.ts (tsS s3)) ok1 (sub_links ok2 (less_sub ..)) fun m H4 s4 h4 => k m H4 ((s1.trans sF).trans (s3.trans s4)) h4
end QB
set_option Elab.async false
set_option linter.all false
set_option maxRecDepth 100000
set_option maxHeartbeats 4000000

namespace QB
open PySem PySem.Spec L2
open PyProof.Rows (envOfC)
open PySem.PyData (strOk)
open RZ (Ty4 rIsTy call_isTy pi_zipA iZipA ItzT for_zipT for_zipL)
local macro_rules | `(tactic| walk_at "hp") => `(tactic| first | assumption | exact upd_same | (refine sg (by assumption) ?_; walk_at "hp"))
local macro_rules | `(tactic| walk_at "a") => `(tactic| first
  | with_reducible refine a_seq ?_ | with_reducible refine a_asg ?_ | with_reducible refine a_drop ?_ | with_reducible refine a_ret ?_ | with_reducible refine a_retN ?_
  | with_reducible refine a_ifS ?_ | with_reducible refine a_next ?_ | with_reducible refine a_gname ?_ | with_reducible refine a_nx ?_ | with_reducible refine a_rt ?_ | with_reducible refine a_bk ?_ | with_reducible refine a_ct ?_
  | ((with_reducible show tVar _ _ _ _); refine a_var rfl ?_) | with_reducible refine a_c ?_ | with_reducible refine a_op ?_ | with_reducible refine a_un ?_ | with_reducible refine a_cb ?_ | with_reducible refine a_nil ?_ | with_reducible refine a_cons ?_
  | with_reducible refine a_call ?_ | with_reducible refine a_meth ?_ | with_reducible refine a_make ?_ | with_reducible refine a_test ?_ | with_reducible refine a_tTest ?_ | with_reducible refine a_tand ?_ | with_reducible refine a_tor ?_ | with_reducible refine a_tnot ?_
  | with_reducible refine a_and ?_ | with_reducible refine a_or ?_ | with_reducible refine a_not ?_ | with_reducible refine a_if ?_ | with_reducible refine a_ri0 ?_ | with_reducible refine a_tup ?_ | with_reducible refine a_lst ?_
  | with_reducible refine a_bl ?_ | with_reducible refine a_sfld ?_ | with_reducible refine a_exI ?_ | with_reducible refine a_exZ ?_ | with_reducible refine a_chain ?_ | with_reducible refine a_lc ?_ | with_reducible refine a_yes ?_ | with_reducible refine a_gcons ?_ | with_reducible refine a_gnil ?_ | with_reducible refine w_list ?_ | with_reducible refine w_tup ?_ | with_reducible refine w_str ?_ | with_reducible refine w_rng1 ?_ | with_reducible refine w_zip ?_ | with_reducible refine w_zipA ?_
  | with_reducible refine a_tFld ?_ | with_reducible refine a_dget ?_ | with_reducible refine a_din ?_ | with_reducible refine a_dnin ?_ | with_reducible refine a_sl ?_ | with_reducible refine a_slNone ?_ | with_reducible refine a_slSome ?_
  | with_reducible refine a_isN ?_ | with_reducible refine a_notN ?_ | with_reducible refine a_eqI ?_ | with_reducible refine a_neI ?_ | with_reducible refine a_eqZ ?_ | with_reducible refine a_neZ ?_ | with_reducible refine a_ltZ ?_ | with_reducible refine a_int ?_ | with_reducible refine a_intB ?_ | with_reducible refine a_abs ?_ | with_reducible refine a_max2 ?_ | with_reducible refine a_min2 ?_ | with_reducible refine a_bm ?_
  | ((with_reducible show rLenQ _ _ _ _); first | refine a_lenT (by walk_at "hp") ?_ | refine a_lenL (by walk_at "hp") ?_)
  | with_reducible refine a_prsC ?_ | with_reducible refine a_prsN ?_ | with_reducible refine a_for ?_ | with_reducible refine a_dput ?_ | with_reducible refine w_keys ?_ | with_reducible refine w_listT ?_
  | with_reducible refine QB.a_rU ?_ | with_reducible refine QB.a_cKw ?_ | with_reducible refine QB.a_star ?_ | with_reducible refine QB.a_dget2 ?_
  | with_reducible refine QB.a_par ?_ | with_reducible refine QB.a_par3 ?_
  | with_reducible refine QB.a_srt ?_
  | with_reducible refine QB.a_dc ?_
  | with_reducible refine iteT ?_ | with_reducible refine iteNT ?_ | with_reducible refine iteNF ?_ | with_reducible refine iteF ?_ | with_reducible refine a_prop ?_)
local macro_rules | `(tactic| walk_at "aa") => `(tactic| (walk_at "a"; repeat walk_at "a"))

variable {P : Program} {w : World} {K : PySem.W.Frag} {mg : Str → Option Value} {base : Heap} {CN CC : Addr}
theorem same_lock {H H' : Hp} {d : Addr} {u x : HO} (s : Same H H') (h : H d = some u) : Same (upd H d x) (upd H' d x) := fun b o e => by
  by_cases c : b = d
  · subst c; rw [upd_same] at e ⊢; exact e
  · rw [upd_ne c] at e ⊢; exact s _ _ e
def spDist : Sp := fun vs H Q _ => ∃ (r m : Addr) (R : List Str) (ls : List Lnk) (d : Str), vs = [.ref r, .ref m, .str d] ∧ H r = some (.tup (R.map V.str)) ∧ LenAt H m ls ∧ RoutersOk R ∧ LinksOk R ls ∧ d ∈ R ∧
  ∀ p H', H p = none → Same H H' → DisAt H' p R (QT.dist (arcs ls) d) → Q (.ref p) H'
abbrev N_distances_to : List Str := ["routers", "lengths", "d", "found", "turn", "pair", "length"]
theorem sc_distances_to : FnScope N_distances_to ["routers", "lengths", "d"] (defScope QH.s_distances_to) := ⟨rfl, rfl, rfl, by decide +kernel, rfl, by decide +kernel, by decide +kernel⟩
theorem D_distances_to (T : Tx P w K mg base CN CC) (F : FunAt K mg "distances_to" QH.s_distances_to) : DefOk P w K mg base "distances_to" ["routers", "lengths", "d"] spDist 1 := by
  refine mk_def F sc_distances_to (fun _ _ _ _ _ _ us hl => match us, hl with | [_, _, _], _ => rfl) (fun vs H Q E h => by obtain ⟨r, m, R, ls, d, rfl, _⟩ := h; rfl) (fun f cdv A outer s H vs Q E hr h => ?_)
  have nd := sc_distances_to.nd
  obtain ⟨r, m, R, ls, d, rfl, hrr, hm, ok1, ok2, hd, k⟩ := h
  have h8 := ok1.most
  refine ⟨_, (pss_cons (ps_set (i := 3) nd rfl (by first | exact Or.inl rfl | exact Or.inr rfl) (pe_disp (pps_cons (pv 2) pe_int pps_nil) (by rfl) (by rfl) (fun z => by cases z) (by decide)))
    (pss_cons (ps_for PassesOwn.never rfl (pi_range1 (by rfl) T.f_range (pa_cons (pe_callB (ki_len (K := K)) (by rfl) T.f_len (by decide +kernel) (pa_cons (pv 0) pa_nil)) pa_nil)) (pg_name (i := 4) nd rfl (by first | exact Or.inl rfl | exact Or.inr rfl)) (pss_one (ps_lock (ps_for PassesOwn.never rfl (pi_keys (pv 1)) (pg_name (i := 5) nd rfl (by first | exact Or.inl rfl | exact Or.inr rfl)) (pss_one (ps_if (pt_cmp (pc_din (hu_of hr) (pe_ix (ki_ixT (K := K)) (pv 5) pe_int (fun _ _ => rfl)) (pv 3))) (pss_cons (ps_set (i := 6) nd rfl (by first | exact Or.inl rfl | exact Or.inr rfl) (pe_op op_add (pe_dget (hu_of hr) (pv 1) (pv 5) (fun _ _ => rfl)) (pe_dget (hu_of hr) (pv 3) (pe_ix (ki_ixT (K := K)) (pv 5) pe_int (fun _ _ => rfl)) (fun _ _ => rfl))))
    (pss_one (ps_if (PW.pt (pw_or (pt_cmp (pc_dnotin (hu_of hr) (pe_ix (ki_ixT (K := K)) (pv 5) pe_int (fun _ _ => rfl)) (pv 3))) (pw_or1 (pt_cmpR op_lt (pv 6) (pe_dget (hu_of hr) (pv 3) (pe_ix (ki_ixT (K := K)) (pv 5) pe_int (fun _ _ => rfl)) (fun _ _ => rfl)) (nomark _))))) (pss_one (ps_dput (hu_of hr) (pv 3) (pe_ix (ki_ixT (K := K)) (pv 5) pe_int (fun _ _ => rfl)) (pv 6) rfl)) pss_nil))) pss_nil))))))
    (pss_one (ps_ret (pv 3))))), ?_⟩
  walk_at "aa"
  refine a_disp fun p H0 np s0 h0 => ?_
  walk_at "aa"
  refine ⟨h0, [(.inr d, .int 0)], rfl, by show 1 ≤ 15; decide, ?_⟩
  have s1 : Same H (upd H0 p (.dK (mergeK [] [(.inr d, .int 0)]))) := same_mut s0 np
  have h1 : DisAt (upd H0 p (.dK (mergeK [] [(.inr d, .int 0)]))) p R fun z => if z = d then some 0 else none := by
    refine ⟨_, upd_same, fun z => ?_, by simp [mergeK, putK], fun k hk => ?_⟩
    · show valV _ _ = (if z = d then some (0 : Int) else none).map V.int
      by_cases c : z = d
      · subst c; rw [if_pos rfl]; exact valV_pos rfl
      · rw [if_neg c]; exact valV_neg fun e => c (by injection e with e; exact e.symm)
    · have : k = .inr d := by simpa [mergeK, putK] using hk
      rw [this]; exact mem_domS.mpr hd
  generalize upd H0 p (.dK (mergeK [] [(.inr d, .int 0)])) = H1 at *
  walk_at "aa"
  have hE := arcs_pos ok2
  have pm : m ≠ p := by rintro rfl; rw [show H m = _ from hm] at np; cases np
  refine ⟨_, rfl, by simp <;> omega, by simp <;> omega, ?_⟩
  refine for_go (F := H) (it_range 0 _) (fun i σ H' => (Same H H' ∧ ∃ f, DisAt H' p R f ∧ QT.BF (arcs ls) d R i [] f) ∧ ∃ q4 q5 q6, σ = [some (.ref r), some (.ref m), some (.str d), some (.ref p), q4, q5, q6]) ⟨⟨s1, _, h1, QT.BF.start hE hd⟩, _, _, _, rfl⟩ (fun _ _ _ h => h.1.1) (fun _ _ _ _ s h => ⟨⟨h.1.1.trans s, h.1.2.imp fun f q => ⟨q.1.same s, q.2⟩⟩, h.2⟩) ?_ ?_
  · rintro i x σ H2 hi ⟨⟨sF, f, hp, bf⟩, q4, q5, q6, rfl⟩ hx
    walk_at "aa"
    refine a_lock (sF _ _ hm) trivial fun od => ?_
    have sL := same_lock (x := .frz od (.dT (lenV ls))) sF hm
    walk_at "aa"
    refine i_keysT upd_same ?_
    refine for_go (F := upd H m (.frz od (.dT (lenV ls)))) (it_keysT upd_same) (fun j σ H' => (Same (upd H m (.frz od (.dT (lenV ls)))) H' ∧ ∃ f, DisAt H' p R f ∧ QT.BF (arcs ls) d R i ((lensOf ls).take j) f) ∧ ∃ q4 q5 q6, σ = [some (.ref r), some (.ref m), some (.str d), some (.ref p), q4, q5, q6]) ⟨⟨sL, f, DK.stay (upd_ne (Ne.symm pm)) hp, bf⟩, _, _, _, rfl⟩ (fun _ _ _ h => h.1.1) (fun _ _ _ _ s h => ⟨⟨h.1.1.trans s, h.1.2.imp fun f q => ⟨q.1.same s, q.2⟩⟩, h.2⟩) ?_ ?_
    · rintro j x σ H3 hj ⟨⟨sF3, f, hp, bf⟩, q4, q5, q6, rfl⟩ ⟨kk, vv, t, e1, rfl, ht⟩
      unfold lenV at e1
      rw [List.getElem?_map] at e1
      obtain ⟨⟨⟨a, b⟩, l⟩, e2, e3⟩ := Option.map_eq_some_iff.mp e1
      cases e3
      have hm3 : Rd H3 m (.dT (lenV ls)) := .inr ⟨od, sF3 _ _ upd_same⟩
      have ea : arcs ls a b = some l := mem_lookup ok2.lnd (List.mem_of_getElem? e2)
      have tk : (lensOf ls).take (j + 1) = (lensOf ls).take j ++ [((a, b), l)] := by rw [List.take_succ, e2]; rfl
      walk_at "aa"
      refine a_ixT ht rfl ?_
      walk_at "aa"
      refine ⟨p, _, rfl, dis_dg hp, ?_⟩
      refine a_bl ?_
      cases hb : f b with
      | none =>
        refine iteF ?_
        walk_at "aa"
        refine ⟨⟨sF3, f, hp, ?_⟩, _, _, _, rfl⟩
        rw [tk]
        exact bf.skip fun p' hp' => by rw [hb] at hp'; cases hp'
      | some pb =>
        refine iteT ?_
        walk_at "aa"
        refine ⟨m, _, rfl, len_ds hm3 ht ea, ?_⟩
        walk_at "aa"
        refine a_ixT ht rfl ?_
        refine ⟨p, _, rfl, dis_ds hp hb, ?_⟩
        walk_at "aa"
        refine a_ixT ht rfl ?_
        walk_at "aa"
        refine ⟨p, _, rfl, dis_dg hp, ?_⟩
        refine a_bl ?_
        have hab := arcs_in ok2 ea
        have stay : (∃ q, f a = some q ∧ q ≤ l + pb) → QT.BF (arcs ls) d R i ((lensOf ls).take (j + 1)) f := fun h => by
          rw [tk]
          exact bf.skip fun p' hp' => by rw [hb] at hp'; cases hp'; exact h
        have fell : (∀ q, f a = some q → l + pb < q) → ∀ kvs, (DK (upd H3 p (.dK kvs)) p R fun z => if z = a then some (.int (l + pb)) else (f z).map V.int) →
            Same (upd H m (.frz od (.dT (lenV ls)))) (upd H3 p (.dK kvs)) ∧ ∃ f', DisAt (upd H3 p (.dK kvs)) p R f' ∧ QT.BF (arcs ls) d R i ((lensOf ls).take (j + 1)) f' := fun hx kvs hk => by
          refine ⟨same_mut sF3 (by rw [upd_ne (Ne.symm pm)]; exact np), QT.put f a (l + pb), DK.congr hk fun z => ?_, ?_⟩
          · show _ = (if z = a then some (l + pb) else f z).map V.int
            by_cases c : z = a
            · rw [if_pos c, if_pos c]; rfl
            · rw [if_neg c, if_neg c]
          · rw [tk]
            exact bf.put ea hb hx
        cases ha : f a with
        | none =>
          refine iteT ?_
          walk_at "aa"
          refine a_ixT ht rfl ?_
          refine dk_put hp hab.1 (by omega) fun kvs hk => ⟨fell (fun q hq => by rw [ha] at hq; cases hq) kvs hk, _, _, _, rfl⟩
        | some pa =>
          refine iteF ?_
          walk_at "aa"
          refine a_ixT ht rfl ?_
          refine ⟨p, _, rfl, dis_ds hp ha, ?_⟩
          walk_at "aa"
          refine iteD (fun c => ?_) (fun c => ?_)
          · walk_at "aa"
            refine a_ixT ht rfl ?_
            refine dk_put hp hab.1 (by omega) fun kvs hk => ⟨fell (fun q hq => by rw [ha] at hq; cases hq; exact c) kvs hk, _, _, _, rfl⟩
          · walk_at "aa"
            exact ⟨⟨sF3, f, hp, stay ⟨pa, ha, by omega⟩⟩, _, _, _, rfl⟩
    · rintro σ H3 ⟨⟨sF3, f, hp, bf⟩, q4, q5, q6, rfl⟩
      rw [List.take_of_length_le (by unfold lenV; rw [List.length_map]; exact Nat.le_refl _)] at bf
      refine ⟨sF3 _ _ upd_same, ⟨same_unlock sF3 hm, f, DK.stay (upd_ne (Ne.symm pm)) hp, bf.round (fun x y l e => (arcs_in ok2 e).2) fun x y l e => lookup_mem e⟩, _, _, _, rfl⟩
  · rintro σ H2 ⟨⟨sF, f, hp, bf⟩, q4, q5, q6, rfl⟩
    walk_at "aa"
    rw [bf.done (by simp)] at hp
    exact k p H2 np sF hp
end QB
set_option Elab.async false
set_option linter.all false
set_option maxRecDepth 100000
set_option maxHeartbeats 4000000

namespace QB
open PySem PySem.Spec L2
open PyProof.Rows (envOfC)
open PySem.PyData (strOk)
open RZ (Ty4 rIsTy call_isTy pi_zipA iZipA ItzT for_zipT for_zipL)
local macro_rules | `(tactic| walk_at "hp") => `(tactic| first | assumption | exact upd_same | (refine sg (by assumption) ?_; walk_at "hp"))
local macro_rules | `(tactic| walk_at "a") => `(tactic| first
  | with_reducible refine a_seq ?_ | with_reducible refine a_asg ?_ | with_reducible refine a_drop ?_ | with_reducible refine a_ret ?_ | with_reducible refine a_retN ?_
  | with_reducible refine a_ifS ?_ | with_reducible refine a_next ?_ | with_reducible refine a_gname ?_ | with_reducible refine a_nx ?_ | with_reducible refine a_rt ?_ | with_reducible refine a_bk ?_ | with_reducible refine a_ct ?_
  | ((with_reducible show tVar _ _ _ _); refine a_var rfl ?_) | with_reducible refine a_c ?_ | with_reducible refine a_op ?_ | with_reducible refine a_un ?_ | with_reducible refine a_cb ?_ | with_reducible refine a_nil ?_ | with_reducible refine a_cons ?_
  | with_reducible refine a_call ?_ | with_reducible refine a_meth ?_ | with_reducible refine a_make ?_ | with_reducible refine a_test ?_ | with_reducible refine a_tTest ?_ | with_reducible refine a_tand ?_ | with_reducible refine a_tor ?_ | with_reducible refine a_tnot ?_
  | with_reducible refine a_and ?_ | with_reducible refine a_or ?_ | with_reducible refine a_not ?_ | with_reducible refine a_if ?_ | with_reducible refine a_ri0 ?_ | with_reducible refine a_tup ?_ | with_reducible refine a_lst ?_
  | with_reducible refine a_bl ?_ | with_reducible refine a_sfld ?_ | with_reducible refine a_exI ?_ | with_reducible refine a_exZ ?_ | with_reducible refine a_chain ?_ | with_reducible refine a_lc ?_ | with_reducible refine a_yes ?_ | with_reducible refine a_gcons ?_ | with_reducible refine a_gnil ?_ | with_reducible refine w_list ?_ | with_reducible refine w_tup ?_ | with_reducible refine w_str ?_ | with_reducible refine w_rng1 ?_ | with_reducible refine w_zip ?_ | with_reducible refine w_zipA ?_
  | with_reducible refine a_tFld ?_ | with_reducible refine a_dget ?_ | with_reducible refine a_din ?_ | with_reducible refine a_dnin ?_ | with_reducible refine a_sl ?_ | with_reducible refine a_slNone ?_ | with_reducible refine a_slSome ?_
  | with_reducible refine a_isN ?_ | with_reducible refine a_notN ?_ | with_reducible refine a_eqI ?_ | with_reducible refine a_neI ?_ | with_reducible refine a_eqZ ?_ | with_reducible refine a_neZ ?_ | with_reducible refine a_ltZ ?_ | with_reducible refine a_int ?_ | with_reducible refine a_intB ?_ | with_reducible refine a_abs ?_ | with_reducible refine a_max2 ?_ | with_reducible refine a_min2 ?_ | with_reducible refine a_bm ?_
  | ((with_reducible show rLenQ _ _ _ _); first | refine a_lenT (by walk_at "hp") ?_ | refine a_lenL (by walk_at "hp") ?_)
  | with_reducible refine a_prsC ?_ | with_reducible refine a_prsN ?_ | with_reducible refine a_for ?_ | with_reducible refine a_dput ?_ | with_reducible refine w_keys ?_ | with_reducible refine w_listT ?_
  | with_reducible refine QB.a_rU ?_ | with_reducible refine QB.a_cKw ?_ | with_reducible refine QB.a_star ?_ | with_reducible refine QB.a_dget2 ?_
  | with_reducible refine QB.a_par ?_ | with_reducible refine QB.a_par3 ?_
  | with_reducible refine QB.a_srt ?_
  | with_reducible refine QB.a_dc ?_
  | with_reducible refine iteT ?_ | with_reducible refine iteNT ?_ | with_reducible refine iteNF ?_ | with_reducible refine iteF ?_ | with_reducible refine a_prop ?_)
local macro_rules | `(tactic| walk_at "aa") => `(tactic| (walk_at "a"; repeat walk_at "a"))

variable {P : Program} {w : World} {K : PySem.W.Frag} {mg : Str → Option Value} {base : Heap} {CN CC : Addr}
open Classical in
/-- the next ones of x towards d -/
noncomputable def nxl (E : QT.Arcs Str) (R : List Str) (d x : Str) : List Str := R.filter fun n => decide (QT.Nx E d x n)
theorem mem_nxl {E : QT.Arcs Str} {R : List Str} {d x n : Str} : n ∈ nxl E R d x ↔ n ∈ R ∧ QT.Nx E d x n := by
  unfold nxl
  rw [List.mem_filter]
  simp
theorem filt_yes {α : Type} {l : List α} {P : α → Bool} {i : Nat} {x : α} (e : l[i]? = some x) (h : P x = true) : (l.take (i + 1)).filter P = (l.take i).filter P ++ [x] := by
  rw [List.take_succ, e, List.filter_append]
  simp [h]
theorem filt_no {α : Type} {l : List α} {P : α → Bool} {i : Nat} {x : α} (e : l[i]? = some x) (h : P x = false) : (l.take (i + 1)).filter P = (l.take i).filter P := by
  rw [List.take_succ, e, List.filter_append]
  simp [h]
def spNexts : Sp := fun vs H Q _ => ∃ (r m p : Addr) (R : List Str) (ls : List Lnk) (d x : Str), vs = [.ref r, .ref m, .ref p, .str x] ∧ H r = some (.tup (R.map V.str)) ∧ LenAt H m ls ∧ DisAt H p R (QT.dist (arcs ls) d) ∧ RoutersOk R ∧ LinksOk R ls ∧ d ∈ R ∧ x ∈ R ∧
  ∀ t H', Same H H' → H' t = some (.tup ((nxl (arcs ls) R d x).map V.str)) → Q (.ref t) H'
abbrev N_nexts_by : List Str := ["routers", "lengths", "distances", "router", "fine", "n"]
theorem sc_nexts_by : FnScope N_nexts_by ["routers", "lengths", "distances", "router"] (defScope QH.s_nexts_by) := ⟨rfl, rfl, rfl, by decide +kernel, rfl, by decide +kernel, by decide +kernel⟩
theorem D_nexts_by (T : Tx P w K mg base CN CC) (F : FunAt K mg "nexts_by" QH.s_nexts_by) : DefOk P w K mg base "nexts_by" ["routers", "lengths", "distances", "router"] spNexts 1 := by
  refine mk_def F sc_nexts_by (fun _ _ _ _ _ _ us hl => match us, hl with | [_, _, _, _], _ => rfl) (fun vs H Q E h => by obtain ⟨r, m, p, R, ls, d, x, rfl, _⟩ := h; rfl) (fun f cdv A outer s H vs Q E hr h => ?_)
  have nd := sc_nexts_by.nd
  obtain ⟨r, m, p, R, ls, d, x, rfl, hrr, hm, hp, ok1, ok2, hd, hx, k⟩ := h
  have h8 := ok1.most
  have hE := arcs_pos ok2
  refine ⟨_, (pss_cons (ps_if (pt_cmpR op_eq (pe_dget2 (hu_of hr) (pv 2) (pv 3) pe_int ⟨by rfl, by rfl, by rfl, by rfl⟩) pe_int (nomark _)) (pss_one (ps_ret (pe_tup pa_nil))) pss_nil)
    (pss_cons (ps_setLc (i := 4) (own := [("n", 5)]) (g := (gName 5)) rfl nd rfl rfl (sw_true rfl rfl rfl (by decide +kernel)) (ki_ptup (K := K) (pv 0)) (blkOk_by (by with_unfolding_all rfl)) (fun _ _ _ _ _ => (pg_name (i := 5) nd rfl (by first | exact Or.inl rfl | exact Or.inr rfl))) (fun _ _ _ _ _ => (pts_one (PW.pt (pw_and (pt_cmp (pc_din (hu_of hr) (pe_tup (pa_cons (pv 3) (pa_cons (pv 5) pa_nil))) (pv 1))) (pw_and1 (pt_cmp (pc_din (hu_of hr) (pv 5) (pv 2)))))))) (fun _ _ _ _ _ => (pv 5)))
    (pss_one (ps_ret (pe_callTy (ki_tuple (K := K)) (by rfl) T.f_tuple (by decide +kernel) (pa_cons (pe_lc (own := [("n", 5)]) (g := (gName 5)) rfl nd (ki_plist (K := K) (pv 4)) (blkOk_by (by with_unfolding_all rfl)) (fun _ _ _ _ _ => (pg_name (i := 5) nd rfl (by first | exact Or.inl rfl | exact Or.inr rfl))) (fun _ _ _ _ _ => (pts_one (pt_cmpR op_eq (pe_op op_add (pe_dget (hu_of hr) (pv 1) (pe_tup (pa_cons (pv 3) (pa_cons (pv 5) pa_nil))) (fun _ _ => rfl)) (pe_dget (hu_of hr) (pv 2) (pv 5) (fun _ _ => rfl))) (pe_dget (hu_of hr) (pv 2) (pv 3) (fun _ _ => rfl)) (nomark _)))) (fun _ _ _ _ _ => (pv 5))) pa_nil)))))), ?_⟩
  walk_at "aa"
  refine ⟨p, rfl, .inl (by obtain ⟨kvs, e, _⟩ := hp; exact ⟨kvs, .inl e⟩), ?_⟩
  walk_at "aa"
  refine ⟨_, dis_dg hp, ?_⟩
  have empty : (∀ n, ¬ QT.Nx (arcs ls) d x n) → nxl (arcs ls) R d x = [] := fun h => by
    refine List.eq_nil_iff_forall_not_mem.mpr fun n hn => h n (mem_nxl.mp hn).2
  cases hL : QT.dist (arcs ls) d x with
  | none =>
    show tC (V.int 0) _ H fun y H2 => rEq (V.int 0) y H2 _
    walk_at "aa"
    refine iteY rfl ?_
    walk_at "aa"
    refine ⟨by show 0 ≤ sizeLine; decide, nw fun t H1 n1 s1 h1 => ?_⟩
    refine k t H1 s1 ?_
    rw [empty (fun n ⟨l, b, _, _, h⟩ => by rw [hL] at h; cases h)]
    exact h1
  | some L =>
    show tC (V.int 0) _ H fun y H2 => rEq (V.int L) y H2 _
    walk_at "aa"
    refine iteD (fun c => ?_) (fun c => ?_)
    · walk_at "aa"
      refine ⟨by show 0 ≤ sizeLine; decide, nw fun t H1 n1 s1 h1 => ?_⟩
      refine k t H1 s1 ?_
      rw [empty (fun n ⟨l, b, h1, h2, h⟩ => by
        rw [hL] at h; cases h
        have := hE _ _ _ h1
        have := QT.dist_nonneg hE h2
        omega)]
      exact h1
    walk_at "aa"
    refine ⟨r, rfl, ⟨_, SqT.of hrr⟩, fun D nD => ?_⟩
    refine lc_go (it_tup hrr) (Same.refl H) nD (fun i acc H => acc = ((R.take i).filter fun n => (arcs ls x n).isSome && (QT.dist (arcs ls) d n).isSome).map V.str) rfl (fun _ _ _ _ _ r => r) ?_ ?_
    · rintro i acc H2 v hi sF hD lc r hv
      rw [List.getElem?_map] at hv
      obtain ⟨n, e1, rfl⟩ := Option.map_eq_some_iff.mp hv
      have hi8 : i < R.length := by simpa using hi
      walk_at "aa"
      refine ⟨rfl, ?_⟩
      walk_at "aa"
      refine ⟨by show 2 ≤ sizeLine; decide, fun t n3 => ?_⟩
      have s3 := same_new (o := .tup [.str x, .str n]) n3
      walk_at "aa"
      refine ⟨m, _, rfl, len_dg (.inl (s3 _ _ (sF _ _ hm))) upd_same, ?_⟩
      refine a_bl ?_
      cases ha : arcs ls x n with
      | none =>
        refine iteF ?_
        refine iteF ?_
        refine lc_skip (sF.trans s3) (s3 _ _ hD) lc ?_
        rw [filt_no e1 (by rw [ha]; rfl)]
        exact r
      | some l =>
        refine iteT ?_
        walk_at "aa"
        refine ⟨p, _, rfl, dis_dg (hp.same (sF.trans s3)), ?_⟩
        refine a_bl ?_
        cases hb : QT.dist (arcs ls) d n with
        | none =>
          refine iteF ?_
          refine lc_skip (sF.trans s3) (s3 _ _ hD) lc ?_
          rw [filt_no e1 (by rw [ha, hb]; rfl)]
          exact r
        | some b =>
          refine iteT ?_
          walk_at "aa"
          refine lc_put (by omega) nD (fun _ _ _ _ _ r => r) (sF.trans s3) (s3 _ _ hD) lc ?_
          rw [filt_yes e1 (by rw [ha, hb]; rfl), List.map_append, r]
          rfl
    · intro acc H2 sF hD lc r
      rw [List.take_of_length_le (by simp)] at r
      subst r
      walk_at "aa"
      refine ⟨D, rfl, ⟨_, SqL.of hD⟩, fun D2 nD2 => ?_⟩
      refine lc_go (it_list hD) (Same.refl H2) nD2 (fun i acc H => acc = (((R.filter fun n => (arcs ls x n).isSome && (QT.dist (arcs ls) d n).isSome).take i).filter fun n => decide ((arcs ls x n).getD 0 + (QT.dist (arcs ls) d n).getD 0 = L)).map V.str) rfl (fun _ _ _ _ _ r => r) ?_ ?_
      · rintro i acc H3 v hi sF3 hD3 lc r hv
        rw [List.getElem?_map] at hv
        obtain ⟨n, e1, rfl⟩ := Option.map_eq_some_iff.mp hv
        have hi8 : i < R.length := Nat.lt_of_lt_of_le hi (by rw [List.length_map]; exact List.length_filter_le _ _)
        have hn := (List.mem_filter.mp (List.mem_of_getElem? e1)).2
        cases ha : arcs ls x n with
        | none => rw [ha] at hn; cases hn
        | some l =>
        cases hb : QT.dist (arcs ls) d n with
        | none => rw [ha, hb] at hn; cases hn
        | some b =>
        walk_at "aa"
        refine ⟨rfl, ?_⟩
        walk_at "aa"
        refine ⟨by show 2 ≤ sizeLine; decide, fun t n3 => ?_⟩
        have s3 := same_new (o := .tup [.str x, .str n]) n3
        have s4 := sF3.trans s3
        refine ⟨m, _, rfl, len_ds (.inl (s4 _ _ (sF _ _ hm))) upd_same ha, ?_⟩
        walk_at "aa"
        refine ⟨p, _, rfl, dis_ds (hp.same (sF.trans s4)) hb, ?_⟩
        walk_at "aa"
        refine ⟨p, _, rfl, dis_ds (hp.same (sF.trans s4)) hL, ?_⟩
        walk_at "aa"
        refine iteD (fun c => ?_) (fun c => ?_)
        · walk_at "aa"
          refine lc_put (by omega) nD2 (fun _ _ _ _ _ r => r) s4 (s3 _ _ hD3) lc ?_
          rw [filt_yes e1 (by rw [ha, hb]; exact decide_eq_true c), List.map_append, r]
          rfl
        · refine lc_skip s4 (s3 _ _ hD3) lc ?_
          rw [filt_no e1 (by rw [ha, hb]; exact decide_eq_false c)]
          exact r
      · intro acc H3 sF3 hD3 lc r
        rw [List.take_of_length_le (by simp)] at r
        subst r
        walk_at "aa"
        refine a_tupL hD3 fun t H4 n4 s4 h4 => ?_
        refine k t H4 (sF.trans (sF3.trans s4)) ?_
        rw [h4, List.filter_filter]
        unfold nxl
        refine congrArg (fun l => some (HO.tup (List.map V.str l))) (List.filter_congr fun n _ => ?_)
        rw [Bool.eq_iff_iff]
        simp only [Bool.and_eq_true, decide_eq_true_eq]
        constructor
        · rintro ⟨h1, h2, h3⟩
          obtain ⟨l, hl⟩ := Option.isSome_iff_exists.mp h2
          obtain ⟨b, hb⟩ := Option.isSome_iff_exists.mp h3
          rw [hl, hb] at h1
          exact ⟨l, b, hl, hb, by rw [hL, ← h1]; rfl⟩
        · rintro ⟨l, b, h1, h2, h3⟩
          rw [hL] at h3
          cases h3
          rw [h1, h2]
          exact ⟨rfl, rfl, rfl⟩
/-! ### tables -/
/-- the table at p: filled for the pairs in S -/
def TabP (H : Hp) (p : Addr) (R : List Str) (nx : Str → Str → List Str) (S : Str → Str → Prop) : Prop := ∃ g, DT H p R R g ∧ ∀ r d, S r d → ∃ t, g r d = some (.ref t) ∧ H t = some (.tup ((nx r d).map V.str))
def TabAt (H : Hp) (p : Addr) (R : List Str) (nx : Str → Str → List Str) : Prop := TabP H p R nx fun r d => r ∈ R ∧ d ∈ R
theorem TabP.same {H H' : Hp} {p : Addr} {R : List Str} {nx : Str → Str → List Str} {S : Str → Str → Prop} (s : Same H H') (h : TabP H p R nx S) : TabP H' p R nx S := by
  obtain ⟨g, h1, h2⟩ := h
  refine ⟨g, h1.same s, fun r d q => ?_⟩
  obtain ⟨t, e, ht⟩ := h2 r d q
  exact ⟨t, e, s _ _ ht⟩
theorem TabAt.same {H H' : Hp} {p : Addr} {R : List Str} {nx : Str → Str → List Str} (s : Same H H') (h : TabAt H p R nx) : TabAt H' p R nx := TabP.same s h
theorem TabP.sub {H : Hp} {p : Addr} {R : List Str} {nx : Str → Str → List Str} {S S' : Str → Str → Prop} (h : TabP H p R nx S) (e : ∀ r d, S' r d → S r d) : TabP H p R nx S' := by
  obtain ⟨g, h1, h2⟩ := h
  exact ⟨g, h1, fun r d q => h2 r d (e r d q)⟩
theorem tab_put {H : Hp} {p t v : Addr} {R : List Str} {nx : Str → Str → List Str} {S : Str → Str → Prop} {a b : Str} {k : L2.St → Hp → Prop} {σ : L2.St} (h : TabP H p R nx S) (ht : H t = some (.tup [.str a, .str b])) (hv : H v = some (.tup ((nx a b).map V.str)))
    (ha : a ∈ R) (hb : b ∈ R) (h8 : R.length ≤ 8) (q : ∀ kvs, TabP (upd H p (.dT kvs)) p R nx (fun r d => S r d ∨ (r = a ∧ d = b)) → k σ (upd H p (.dT kvs))) :
    ∃ c H4, V.ref p = .ref c ∧ DPut H c (.ref t) (.ref v) H4 ∧ k σ H4 := by
  obtain ⟨g, h1, h2⟩ := h
  refine dt_put h1 ht ha hb (Nat.le_trans (Nat.mul_le_mul h8 h8) (by decide)) fun kvs hk => q kvs ⟨_, hk, fun r d q => ?_⟩
  obtain ⟨kvs0, e0, _⟩ := h1
  have ne : ∀ u xs, H u = some (.tup xs) → u ≠ p := by rintro u xs e rfl; rw [e0] at e; cases e
  by_cases c : r = a ∧ d = b
  · obtain ⟨rfl, rfl⟩ := c
    exact ⟨v, if_pos ⟨rfl, rfl⟩, by rw [upd_ne (ne _ _ hv)]; exact hv⟩
  · rcases q with q | q
    · obtain ⟨u, e, hu⟩ := h2 r d q
      exact ⟨u, by show (if _ then _ else _) = _; rw [if_neg c]; exact e, by rw [upd_ne (ne _ _ hu)]; exact hu⟩
    · exact absurd q c
theorem mem_take {α : Type} {l : List α} {i : Nat} {x y : α} (e : l[i]? = some x) : y ∈ l.take (i + 1) ↔ y ∈ l.take i ∨ y = x := by
  rw [List.take_succ, e, List.mem_append]
  simp
def spTablesBy : Sp := fun vs H Q _ => ∃ (r m : Addr) (R : List Str) (ls : List Lnk), vs = [.ref r, .ref m] ∧ H r = some (.tup (R.map V.str)) ∧ LenAt H m ls ∧ RoutersOk R ∧ LinksOk R ls ∧ ∀ p H', Same H H' → TabAt H' p R (fun x d => nxl (arcs ls) R d x) → Q (.ref p) H'
abbrev N_tables_by : List Str := ["routers", "lengths", "found", "d", "distances", "router"]
theorem sc_tables_by : FnScope N_tables_by ["routers", "lengths"] (defScope QH.s_tables_by) := ⟨rfl, rfl, rfl, by decide +kernel, rfl, by decide +kernel, by decide +kernel⟩
theorem D_tables_by (T : Tx P w K mg base CN CC) (F : FunAt K mg "tables_by" QH.s_tables_by) (D_distances_to : DefOk P w K mg base "distances_to" ["routers", "lengths", "d"] spDist 1) (D_nexts_by : DefOk P w K mg base "nexts_by" ["routers", "lengths", "distances", "router"] spNexts 1) :
    DefOk P w K mg base "tables_by" ["routers", "lengths"] spTablesBy 2 := by
  refine mk_def F sc_tables_by (fun _ _ _ _ _ _ us hl => match us, hl with | [_, _], _ => rfl) (fun vs H Q E h => by obtain ⟨r, m, R, ls, rfl, _⟩ := h; rfl) (fun f cdv A outer s H vs Q E hr h => ?_)
  have nd := sc_tables_by.nd
  obtain ⟨r, m, R, ls, rfl, hrr, hm, ok1, ok2, k⟩ := h
  have h8 := ok1.most
  refine ⟨_, (pss_cons (ps_set (i := 2) nd rfl (by first | exact Or.inl rfl | exact Or.inr rfl) pe_dnewT)
    (pss_cons (ps_for PassesOwn.never rfl (ki_ptup (K := K) (pv 0)) (pg_name (i := 3) nd rfl (by first | exact Or.inl rfl | exact Or.inr rfl)) (pss_cons (ps_set (i := 4) nd rfl (by first | exact Or.inl rfl | exact Or.inr rfl) (pe_callD D_distances_to (hr.mono (by decide)) (by rfl) (pa_cons (pv 0) (pa_cons (pv 1) (pa_cons (pv 3) pa_nil)))))
    (pss_one (ps_for PassesOwn.never rfl (ki_ptup (K := K) (pv 0)) (pg_name (i := 5) nd rfl (by first | exact Or.inl rfl | exact Or.inr rfl)) (pss_one (ps_dput (hu_of hr) (pv 2) (pe_tup (pa_cons (pv 5) (pa_cons (pv 3) pa_nil))) (pe_callD D_nexts_by (hr.mono (by decide)) (by rfl) (pa_cons (pv 0) (pa_cons (pv 1) (pa_cons (pv 4) (pa_cons (pv 5) pa_nil))))) rfl))))))
    (pss_one (ps_ret (pv 2))))), ?_⟩
  walk_at "aa"
  refine a_newT fun p H1 np s1 h1 => ?_
  walk_at "aa"
  refine ⟨r, rfl, ⟨_, SqT.of (s1 _ _ hrr)⟩, ?_⟩
  refine for_go (F := H) (it_tup hrr) (fun i σ H' => (Same H H' ∧ TabP H' p R (fun x d => nxl (arcs ls) R d x) fun x d => x ∈ R ∧ d ∈ R.take i) ∧ ∃ q3 q4 q5, σ = [some (.ref r), some (.ref m), some (.ref p), q3, q4, q5]) ⟨⟨s1, _, DT.newD h1, fun x d h => by simp at h⟩, _, _, _, rfl⟩ (fun _ _ _ h => h.1.1) (fun _ _ _ _ s h => ⟨⟨h.1.1.trans s, h.1.2.same s⟩, h.2⟩) ?_ ?_
  · rintro i x σ H2 hi ⟨⟨sF, hp⟩, q3, q4, q5, rfl⟩ hx
    rw [List.getElem?_map] at hx
    obtain ⟨d, e1, rfl⟩ := Option.map_eq_some_iff.mp hx
    have hd := List.mem_of_getElem? e1
    walk_at "aa"
    refine ⟨r, m, R, ls, d, rfl, sF _ _ hrr, sF _ _ hm, ok1, ok2, hd, fun pd H3 n3 s3 h3 => ?_⟩
    have sF3 := sF.trans s3
    walk_at "aa"
    refine ⟨r, rfl, ⟨_, SqT.of (sF3 _ _ hrr)⟩, ?_⟩
    have npd : pd ≠ p := by
      rintro rfl
      obtain ⟨g, ⟨kvs, e, _⟩, _⟩ := hp
      rw [e] at n3; cases n3
    have hpd0 : DisAt (drop p H3) pd R (QT.dist (arcs ls) d) := DK.stay (drop_ne npd) h3
    have sD : Same H (drop p H3) := fun b o e => by rw [drop_ne (ne_of_none e np)]; exact sF3 _ _ e
    refine for_go (F := drop p H3) (it_tup (sD _ _ hrr)) (fun j σ H' => (Same (drop p H3) H' ∧ TabP H' p R (fun x d => nxl (arcs ls) R d x) fun x d' => x ∈ R ∧ d' ∈ R.take i ∨ (x ∈ R.take j ∧ d' = d)) ∧ ∃ q5, σ = [some (.ref r), some (.ref m), some (.ref p), some (.str d), some (.ref pd), q5]) ⟨⟨drop_le, (hp.same s3).sub fun x d' h => by simpa using h⟩, _, rfl⟩ (fun _ _ _ h => h.1.1) (fun _ _ _ _ s h => ⟨⟨h.1.1.trans s, h.1.2.same s⟩, h.2⟩) ?_ ?_
    · rintro j x σ H4 hj ⟨⟨sF4, hp4⟩, q5, rfl⟩ hx
      rw [List.getElem?_map] at hx
      obtain ⟨y, e2, rfl⟩ := Option.map_eq_some_iff.mp hx
      have hy := List.mem_of_getElem? e2
      walk_at "aa"
      refine ⟨r, m, pd, R, ls, d, y, rfl, sF4 _ _ (sD _ _ hrr), sF4 _ _ (sD _ _ hm), hpd0.same sF4, ok1, ok2, hd, hy, fun v H5 s5 h5 => ?_⟩
      walk_at "aa"
      refine ⟨by show 2 ≤ sizeLine; decide, fun t n6 => ?_⟩
      have s6 := same_new (o := .tup [.str y, .str d]) n6
      refine tab_put (hp4.same (s5.trans s6)) upd_same (s6 _ _ h5) hy hd h8 fun kvs hk => ?_
      refine ⟨⟨same_mut (sF4.trans (s5.trans s6)) drop_same, hk.sub fun x d' h => ?_⟩, _, rfl⟩
      rcases h with h | ⟨h1, h2⟩
      · exact .inl (.inl h)
      · rcases (mem_take e2).mp h1 with h1 | h1
        · exact .inl (.inr ⟨h1, h2⟩)
        · exact .inr ⟨h1, h2⟩
    · rintro σ H4 ⟨⟨sF4, hp4⟩, q5, rfl⟩
      refine ⟨⟨sD.trans sF4, hp4.sub fun x d' h => ?_⟩, _, _, _, rfl⟩
      have e : R.take (R.map V.str).length = R := List.take_of_length_le (by simp)
      rcases (mem_take e1).mp h.2 with h2 | h2
      · exact .inl ⟨h.1, h2⟩
      · exact .inr ⟨by rw [e]; exact h.1, h2⟩
  · rintro σ H2 ⟨⟨sF, hp⟩, q3, q4, q5, rfl⟩
    walk_at "aa"
    refine k p H2 sF (hp.sub fun x d h => ?_)
    rw [List.take_of_length_le (by simp)]
    exact h
def spNextTables (CN : Addr) : Sp := fun vs H Q _ => ∃ (n : Addr) (R : List Str) (ls : List Lnk), vs = [.ref n] ∧ NetAt CN H n R ls ∧ RoutersOk R ∧ LinksOk R ls ∧ ∀ p H', Same H H' → TabAt H' p R (fun x d => nxl (arcs ls) R d x) → Q (.ref p) H'
abbrev N_next_tables : List Str := ["net"]
theorem sc_next_tables : FnScope N_next_tables ["net"] (defScope QH.s_next_tables) := ⟨rfl, rfl, rfl, by decide +kernel, rfl, by decide +kernel, by decide +kernel⟩
theorem D_next_tables (T : Tx P w K mg base CN CC) (F : FunAt K mg "next_tables" QH.s_next_tables) (D_tables_by : DefOk P w K mg base "tables_by" ["routers", "lengths"] spTablesBy 2) (D_lengths_of : DefOk P w K mg base "lengths_of" ["net"] (spLengthsOf CN) 3) :
    DefOk P w K mg base "next_tables" ["net"] (spNextTables CN) 4 := by
  refine mk_def F sc_next_tables (fun _ _ _ _ _ _ us hl => match us, hl with | [_], _ => rfl) (fun vs H Q E h => by obtain ⟨n, R, ls, rfl, _⟩ := h; rfl) (fun f cdv A outer s H vs Q E hr h => ?_)
  have nd := sc_next_tables.nd
  obtain ⟨n, R, ls, rfl, hn, ok1, ok2, k⟩ := h
  refine ⟨_, (pss_one (ps_ret (pe_callD D_tables_by (hr.mono (by decide)) (by rfl) (pa_cons (pe_routers T.net (hr.mono (by decide)) (pv 0) rfl) (pa_cons (pe_callD D_lengths_of (hr.mono (by decide)) (by rfl) (pa_cons (pv 0) pa_nil)) pa_nil))))), ?_⟩
  walk_at "aa"
  refine n_routers hn fun r hr => ?_
  walk_at "aa"
  refine ⟨n, R, ls, rfl, hn, ok2, fun m H1 s1 hm => ?_⟩
  walk_at "aa"
  exact ⟨r, m, R, ls, rfl, s1 _ _ hr, hm, ok1, ok2, fun p H2 s2 hp => k p H2 (s1.trans s2) hp⟩
end QB
set_option Elab.async false
set_option linter.all false
set_option maxRecDepth 100000
set_option maxHeartbeats 4000000

namespace QB
open PySem PySem.Spec L2
open PyProof.Rows (envOfC)
open PySem.PyData (strOk)
open RZ (Ty4 rIsTy call_isTy pi_zipA iZipA ItzT for_zipT for_zipL)
open StX (tStar pa_star)
local macro_rules | `(tactic| walk_at "hp") => `(tactic| first | assumption | exact upd_same | (refine sg (by assumption) ?_; walk_at "hp"))
local macro_rules | `(tactic| walk_at "a") => `(tactic| first
  | with_reducible refine a_seq ?_ | with_reducible refine a_asg ?_ | with_reducible refine a_drop ?_ | with_reducible refine a_ret ?_ | with_reducible refine a_retN ?_
  | with_reducible refine a_ifS ?_ | with_reducible refine a_next ?_ | with_reducible refine a_gname ?_ | with_reducible refine a_nx ?_ | with_reducible refine a_rt ?_ | with_reducible refine a_bk ?_ | with_reducible refine a_ct ?_
  | ((with_reducible show tVar _ _ _ _); refine a_var rfl ?_) | with_reducible refine a_c ?_ | with_reducible refine a_op ?_ | with_reducible refine a_un ?_ | with_reducible refine a_cb ?_ | with_reducible refine a_nil ?_ | with_reducible refine a_cons ?_
  | with_reducible refine a_call ?_ | with_reducible refine a_meth ?_ | with_reducible refine a_make ?_ | with_reducible refine a_test ?_ | with_reducible refine a_tTest ?_ | with_reducible refine a_tand ?_ | with_reducible refine a_tor ?_ | with_reducible refine a_tnot ?_
  | with_reducible refine a_and ?_ | with_reducible refine a_or ?_ | with_reducible refine a_not ?_ | with_reducible refine a_if ?_ | with_reducible refine a_ri0 ?_ | with_reducible refine a_tup ?_ | with_reducible refine a_lst ?_
  | with_reducible refine a_bl ?_ | with_reducible refine a_sfld ?_ | with_reducible refine a_exI ?_ | with_reducible refine a_exZ ?_ | with_reducible refine a_chain ?_ | with_reducible refine a_lc ?_ | with_reducible refine a_yes ?_ | with_reducible refine a_gcons ?_ | with_reducible refine a_gnil ?_ | with_reducible refine w_list ?_ | with_reducible refine w_tup ?_ | with_reducible refine w_str ?_ | with_reducible refine w_rng1 ?_ | with_reducible refine w_zip ?_ | with_reducible refine w_zipA ?_
  | with_reducible refine a_tFld ?_ | with_reducible refine a_dget ?_ | with_reducible refine a_din ?_ | with_reducible refine a_dnin ?_ | with_reducible refine a_sl ?_ | with_reducible refine a_slNone ?_ | with_reducible refine a_slSome ?_
  | with_reducible refine a_isN ?_ | with_reducible refine a_notN ?_ | with_reducible refine a_eqI ?_ | with_reducible refine a_neI ?_ | with_reducible refine a_eqZ ?_ | with_reducible refine a_neZ ?_ | with_reducible refine a_ltZ ?_ | with_reducible refine a_int ?_ | with_reducible refine a_intB ?_ | with_reducible refine a_abs ?_ | with_reducible refine a_max2 ?_ | with_reducible refine a_min2 ?_ | with_reducible refine a_bm ?_
  | ((with_reducible show rLenQ _ _ _ _); first | refine a_lenT (by walk_at "hp") ?_ | refine a_lenL (by walk_at "hp") ?_)
  | with_reducible refine a_prsC ?_ | with_reducible refine a_prsN ?_ | with_reducible refine a_for ?_ | with_reducible refine a_dput ?_ | with_reducible refine w_keys ?_ | with_reducible refine w_listT ?_
  | with_reducible refine QB.a_rU ?_ | with_reducible refine QB.a_cKw ?_ | with_reducible refine QB.a_star ?_ | with_reducible refine QB.a_dget2 ?_
  | with_reducible refine QB.a_par ?_ | with_reducible refine QB.a_par3 ?_
  | with_reducible refine QB.a_srt ?_
  | with_reducible refine QB.a_dc ?_
  | with_reducible refine iteT ?_ | with_reducible refine iteNT ?_ | with_reducible refine iteNF ?_ | with_reducible refine iteF ?_ | with_reducible refine a_prop ?_)
local macro_rules | `(tactic| walk_at "aa") => `(tactic| (walk_at "a"; repeat walk_at "a"))

variable {P : Program} {w : World} {K : PySem.W.Frag} {mg : Str → Option Value} {base : Heap} {CN CC : Addr}
theorem RoutersOk.sok {R : List Str} (h : RoutersOk R) : ∀ z ∈ R, strOk z = true := fun z hz => (h.names z hz).ok
def spCheckLike (CN : Addr) : Sp := fun vs H Q _ => ∃ (n m : Addr) (R : List Str) (ls ms : List Lnk), vs = [.ref n, .ref m] ∧ NetAt CN H n R ls ∧ NetAt CN H m R ms ∧ RoutersOk R ∧ ∀ H', Same H H' → Q .non H'
abbrev N_check_like : List Str := ["old", "new"]
theorem sc_check_like : FnScope N_check_like ["old", "new"] (defScope QH.s_check_like) := ⟨rfl, rfl, rfl, by decide +kernel, rfl, by decide +kernel, by decide +kernel⟩
theorem D_check_like (T : Tx P w K mg base CN CC) (F : FunAt K mg "check_like" QH.s_check_like) : DefOk P w K mg base "check_like" ["old", "new"] (spCheckLike CN) 3 := by
  refine mk_def F sc_check_like (fun _ _ _ _ _ _ us hl => match us, hl with | [_, _], _ => rfl) (fun vs H Q E h => by obtain ⟨n, m, R, ls, ms, rfl, _⟩ := h; rfl) (fun f cdv A outer s H vs Q E hr h => ?_)
  have nd := sc_check_like.nd
  obtain ⟨n, m, R, ls, ms, rfl, hn, hm, ok, k⟩ := h
  refine ⟨_, (pss_one (ps_if (pt_cmpR (ki_neD (K := K) hr.units) (pe_routers T.net (hr.mono (by decide)) (pv 0) rfl) (pe_routers T.net (hr.mono (by decide)) (pv 1) rfl) (nomark _)) (pss_one ps_never) pss_nil)), ?_⟩
  walk_at "aa"
  refine n_routers hn fun r hr => ?_
  walk_at "aa"
  refine n_routers hm fun r2 hr2 => ?_
  refine a_neT hr hr2 ok.sok ok.sok ?_
  refine a_bl ?_
  refine iteYN rfl ?_
  walk_at "aa"
  exact k H (Same.refl H)
/-! ### links towards -/
def TowP (H : Hp) (l : Addr) (R : List Str) (L : Str → List Str) (S : Str → Prop) : Prop := ∃ g, DK H l R g ∧ (∀ x, S x → ∃ t, g x = some (.ref t) ∧ H t = some (.tup ((L x).map V.str)))
def TowAt (H : Hp) (l : Addr) (R : List Str) (L : Str → List Str) : Prop := TowP H l R L fun x => x ∈ R
theorem TowP.same {H H' : Hp} {l : Addr} {R : List Str} {L : Str → List Str} {S : Str → Prop} (s : Same H H') (h : TowP H l R L S) : TowP H' l R L S := by
  obtain ⟨g, h1, h2⟩ := h
  refine ⟨g, h1.same s, fun x q => ?_⟩
  obtain ⟨t, e, ht⟩ := h2 x q
  exact ⟨t, e, s _ _ ht⟩
theorem TowAt.same {H H' : Hp} {l : Addr} {R : List Str} {L : Str → List Str} (s : Same H H') (h : TowAt H l R L) : TowAt H' l R L := TowP.same s h
theorem TowP.sub {H : Hp} {l : Addr} {R : List Str} {L : Str → List Str} {S S' : Str → Prop} (h : TowP H l R L S) (e : ∀ x, S' x → S x) : TowP H l R L S' := by
  obtain ⟨g, h1, h2⟩ := h
  exact ⟨g, h1, fun x q => h2 x (e x q)⟩
theorem tow_put {H : Hp} {l v : Addr} {R : List Str} {L : Str → List Str} {S : Str → Prop} {x : Str} {k : L2.St → Hp → Prop} {σ : L2.St} (h : TowP H l R L S) (hv : H v = some (.tup ((L x).map V.str)))
    (hx : x ∈ R) (h8 : R.length ≤ 8) (q : ∀ kvs, TowP (upd H l (.dK kvs)) l R L (fun y => S y ∨ y = x) → k σ (upd H l (.dK kvs))) :
    ∃ c H4, V.ref l = .ref c ∧ DPut H c (.str x) (.ref v) H4 ∧ k σ H4 := by
  obtain ⟨g, h1, h2⟩ := h
  refine dk_put h1 hx (by omega) fun kvs hk => q kvs ⟨_, hk, fun y q => ?_⟩
  obtain ⟨kvs0, e0, _⟩ := h1
  have ne : ∀ u xs, H u = some (.tup xs) → u ≠ l := by rintro u xs e rfl; rw [e0] at e; cases e
  by_cases c : y = x
  · subst c
    exact ⟨v, if_pos rfl, by rw [upd_ne (ne _ _ hv)]; exact hv⟩
  · rcases q with q | q
    · obtain ⟨u, e, hu⟩ := h2 y q
      exact ⟨u, by show (if _ then _ else _) = _; rw [if_neg c]; exact e, by rw [upd_ne (ne _ _ hu)]; exact hu⟩
    · exact absurd q c
/-- the next ones by either of the tables -/
def both (R : List Str) (nx nx' : Str → Str → List Str) (d x : Str) : List Str := if x = d then [] else R.filter fun n => decide (n ∈ nx x d ++ nx' x d)
def spTowards : Sp := fun vs H Q _ => ∃ (r p q : Addr) (R : List Str) (nx nx' : Str → Str → List Str) (d : Str), vs = [.ref r, .ref p, .ref q, .str d] ∧ H r = some (.tup (R.map V.str)) ∧ TabAt H p R nx ∧ TabAt H q R nx' ∧
  (∀ x d, (nx x d).length ≤ 8) ∧ (∀ x d, (nx' x d).length ≤ 8) ∧ R.length ≤ 8 ∧ d ∈ R ∧ ∀ l H', Same H H' → TowAt H' l R (both R nx nx' d) → Q (.ref l) H'
abbrev N_links_towards : List Str := ["routers", "tables", "others", "d", "found", "router", "some", "one"]
theorem sc_links_towards : FnScope N_links_towards ["routers", "tables", "others", "d"] (defScope QH.s_links_towards) := ⟨rfl, rfl, rfl, by decide +kernel, rfl, by decide +kernel, by decide +kernel⟩
theorem D_links_towards (T : Tx P w K mg base CN CC) (F : FunAt K mg "links_towards" QH.s_links_towards) : DefOk P w K mg base "links_towards" ["routers", "tables", "others", "d"] spTowards 1 := by
  refine mk_def F sc_links_towards (fun _ _ _ _ _ _ us hl => match us, hl with | [_, _, _, _], _ => rfl) (fun vs H Q E h => by obtain ⟨r, p, q, R, nx, nx', d, rfl, _⟩ := h; rfl) (fun f cdv A outer s H vs Q E hr h => ?_)
  have nd := sc_links_towards.nd
  obtain ⟨r, p, q, R, nx, nx', d, rfl, hrr, hp, hq, l1, l2, h8, hd, k⟩ := h
  refine ⟨_, (pss_cons (ps_set (i := 4) nd rfl (by first | exact Or.inl rfl | exact Or.inr rfl) (pe_disp (pps_cons (pv 3) (pe_tup pa_nil) pps_nil) (by rfl) (by rfl) (fun z => by cases z) (by decide)))
    (pss_cons (ps_for PassesOwn.never rfl (ki_ptup (K := K) (pv 0)) (pg_name (i := 5) nd rfl (by first | exact Or.inl rfl | exact Or.inr rfl)) (pss_one (ps_if (pt_cmpR op_ne (pv 5) (pv 3) (nomark _)) (pss_cons (ps_set (i := 6) nd rfl (by first | exact Or.inl rfl | exact Or.inr rfl) (pe_op (ki_catA (K := K)) (pe_dget (hu_of hr) (pv 1) (pe_tup (pa_cons (pv 5) (pa_cons (pv 3) pa_nil))) (fun _ _ => rfl)) (pe_dget (hu_of hr) (pv 2) (pe_tup (pa_cons (pv 5) (pa_cons (pv 3) pa_nil))) (fun _ _ => rfl))))
    (pss_one (ps_dput (hu_of hr) (pv 4) (pv 5) (pe_callTy (ki_tuple (K := K)) (by rfl) T.f_tuple (by decide +kernel) (pa_cons (pe_lc (own := [("one", 7)]) (g := (gName 7)) rfl nd (ki_ptup (K := K) (pv 0)) (blkOk_by (by with_unfolding_all rfl)) (fun _ _ _ _ _ => (pg_name (i := 7) nd rfl (by first | exact Or.inl rfl | exact Or.inr rfl))) (fun _ _ _ _ _ => (pts_one (pt_cmpR (ki_in (K := K)) (pv 7) (pv 6) (by rfl)))) (fun _ _ _ _ _ => (pv 7))) pa_nil)) rfl))) pss_nil)))
    (pss_one (ps_ret (pv 4))))), ?_⟩
  walk_at "aa"
  refine a_disp fun l H0 nl s0 h0 => ?_
  walk_at "aa"
  refine ⟨by show 0 ≤ sizeLine; decide, fun t nt => ?_⟩
  have st := same_new (o := .tup []) nt
  walk_at "aa"
  refine ⟨st _ _ h0, [(.inr d, .ref t)], rfl, by show 1 ≤ 15; decide, ?_⟩
  have s1 : Same H (upd (upd H0 t (.tup [])) l (.dK (mergeK [] [(.inr d, .ref t)]))) := same_mut (s0.trans st) nl
  have tl : t ≠ l := by rintro rfl; rw [h0] at nt; cases nt
  have h1 : TowP (upd (upd H0 t (.tup [])) l (.dK (mergeK [] [(.inr d, .ref t)]))) l R (both R nx nx' d) fun x => x = d := by
    refine ⟨fun z => if z = d then some (.ref t) else none, ⟨_, upd_same, fun z => ?_, by simp [mergeK, putK], fun k hk => ?_⟩, fun x e => ?_⟩
    · show valV _ _ = if z = d then _ else _
      by_cases c : z = d
      · subst c; rw [if_pos rfl]; exact valV_pos rfl
      · rw [if_neg c]; exact valV_neg fun e => c (by injection e with e; exact e.symm)
    · have : k = .inr d := by simpa [mergeK, putK] using hk
      rw [this]; exact mem_domS.mpr hd
    · subst e
      refine ⟨t, if_pos rfl, ?_⟩
      rw [upd_ne tl, upd_same]
      unfold both
      rw [if_pos rfl]
      rfl
  generalize upd (upd H0 t (.tup [])) l (.dK (mergeK [] [(.inr d, .ref t)])) = H1 at *
  walk_at "aa"
  refine ⟨r, rfl, ⟨_, SqT.of (s1 _ _ hrr)⟩, ?_⟩
  refine for_go (F := H) (it_tup hrr) (fun i σ H' => (Same H H' ∧ TowP H' l R (both R nx nx' d) fun x => x = d ∨ x ∈ R.take i) ∧ ∃ q5 q6 q7, σ = [some (.ref r), some (.ref p), some (.ref q), some (.str d), some (.ref l), q5, q6, q7]) ⟨⟨s1, h1.sub fun x h => by simpa using h⟩, _, _, _, rfl⟩ (fun _ _ _ h => h.1.1) (fun _ _ _ _ s h => ⟨⟨h.1.1.trans s, h.1.2.same s⟩, h.2⟩) ?_ ?_
  · rintro i x σ H2 hi ⟨⟨sF, hl⟩, q5, q6, q7, rfl⟩ hx
    rw [List.getElem?_map] at hx
    obtain ⟨y, e1, rfl⟩ := Option.map_eq_some_iff.mp hx
    have hy := List.mem_of_getElem? e1
    walk_at "aa"
    refine iteDN (fun c => ?_) (fun c => ?_)
    · obtain ⟨g, dg, gg⟩ := hp.same sF
      obtain ⟨t1, e2, ht1⟩ := gg y d ⟨hy, hd⟩
      obtain ⟨g', dg', gg'⟩ := hq.same sF
      obtain ⟨t2, e3, ht2⟩ := gg' y d ⟨hy, hd⟩
      walk_at "aa"
      refine ⟨by show 2 ≤ sizeLine; decide, fun a3 n3 => ?_⟩
      have s3 := same_new (o := .tup [.str y, .str d]) n3
      refine ⟨p, _, rfl, dt_ds (dg.same s3) upd_same e2, ?_⟩
      walk_at "aa"
      refine ⟨by show 2 ≤ sizeLine; decide, fun a4 n4 => ?_⟩
      have s4 := same_new (o := .tup [.str y, .str d]) n4
      refine ⟨q, _, rfl, dt_ds ((dg'.same s3).same s4) upd_same e3, ?_⟩
      refine a_catA (s4 _ _ (s3 _ _ ht1)) (s4 _ _ (s3 _ _ ht2)) (by have := l1 y d; have := l2 y d; simp; omega) fun a5 H5 s5 h5 => ?_
      have s35 := s3.trans (s4.trans s5)
      have sF5 := sF.trans s35
      walk_at "aa"
      refine ⟨r, rfl, ⟨_, SqT.of (sF5 _ _ hrr)⟩, fun D nD => ?_⟩
      refine lc_go (it_tup (sF5 _ _ hrr)) (Same.refl H5) nD (fun i acc H => acc = ((R.take i).filter fun n => decide (n ∈ nx y d ++ nx' y d)).map V.str) rfl (fun _ _ _ _ _ r => r) ?_ ?_
      · rintro j acc H6 v hj sF6 hD lc r hv
        rw [List.getElem?_map] at hv
        obtain ⟨n, e7, rfl⟩ := Option.map_eq_some_iff.mp hv
        walk_at "aa"
        refine ⟨rfl, ?_⟩
        walk_at "aa"
        refine a_inT (ss := nx y d ++ nx' y d) (by rw [List.map_append]; exact sF6 _ _ h5) ?_
        refine a_bl ?_
        refine iteD (fun c => ?_) (fun c => ?_)
        · walk_at "aa"
          refine lc_put (by simp at hj; omega) nD (fun _ _ _ _ _ r => r) sF6 hD lc ?_
          rw [filt_yes e7 (decide_eq_true c), List.map_append, r]
          rfl
        · refine lc_skip sF6 hD lc ?_
          rw [filt_no e7 (decide_eq_false c)]
          exact r
      · intro acc H6 sF6 hD lc r
        rw [List.take_of_length_le (by simp)] at r
        subst r
        walk_at "aa"
        refine a_tupL hD fun t6 H7 n7 s7 h7 => ?_
        walk_at "aa"
        have sT := s35.trans (sF6.trans s7)
        refine tow_put (hl.same sT) (by rw [h7]; unfold both; rw [if_neg c]) hy h8 fun kvs hk => ?_
        refine ⟨⟨same_mut (sF.trans sT) nl, hk.sub fun x h => ?_⟩, _, _, _, rfl⟩
        rcases h with h | h
        · exact .inl (.inl h)
        · rcases (mem_take e1).mp h with h | h
          · exact .inl (.inr h)
          · exact .inr h
    · walk_at "aa"
      refine ⟨⟨sF, hl.sub fun x h => ?_⟩, _, _, _, rfl⟩
      rcases h with h | h
      · exact .inl h
      · rcases (mem_take e1).mp h with h | h
        · exact .inr h
        · exact .inl (by rw [h]; exact c)
  · rintro σ H2 ⟨⟨sF, hl⟩, q5, q6, q7, rfl⟩
    walk_at "aa"
    refine k l H2 sF (hl.sub fun x h => .inr ?_)
    rw [List.take_of_length_le (by simp)]
    exact h
end QB
set_option Elab.async false
set_option linter.all false
set_option maxRecDepth 100000
set_option maxHeartbeats 4000000

namespace QB
open PySem PySem.Spec L2
open PyProof.Rows (envOfC)
open PySem.PyData (strOk)
open RZ (Ty4 rIsTy call_isTy pi_zipA iZipA ItzT for_zipT for_zipL)
open StX (tStar pa_star)
local macro_rules | `(tactic| walk_at "hp") => `(tactic| first | assumption | exact upd_same | (refine sg (by assumption) ?_; walk_at "hp"))
local macro_rules | `(tactic| walk_at "a") => `(tactic| first
  | with_reducible refine a_seq ?_ | with_reducible refine a_asg ?_ | with_reducible refine a_drop ?_ | with_reducible refine a_ret ?_ | with_reducible refine a_retN ?_
  | with_reducible refine a_ifS ?_ | with_reducible refine a_next ?_ | with_reducible refine a_gname ?_ | with_reducible refine a_nx ?_ | with_reducible refine a_rt ?_ | with_reducible refine a_bk ?_ | with_reducible refine a_ct ?_
  | ((with_reducible show tVar _ _ _ _); refine a_var rfl ?_) | with_reducible refine a_c ?_ | with_reducible refine a_op ?_ | with_reducible refine a_un ?_ | with_reducible refine a_cb ?_ | with_reducible refine a_nil ?_ | with_reducible refine a_cons ?_
  | with_reducible refine a_call ?_ | with_reducible refine a_meth ?_ | with_reducible refine a_make ?_ | with_reducible refine a_test ?_ | with_reducible refine a_tTest ?_ | with_reducible refine a_tand ?_ | with_reducible refine a_tor ?_ | with_reducible refine a_tnot ?_
  | with_reducible refine a_and ?_ | with_reducible refine a_or ?_ | with_reducible refine a_not ?_ | with_reducible refine a_if ?_ | with_reducible refine a_ri0 ?_ | with_reducible refine a_tup ?_ | with_reducible refine a_lst ?_
  | with_reducible refine a_bl ?_ | with_reducible refine a_sfld ?_ | with_reducible refine a_exI ?_ | with_reducible refine a_exZ ?_ | with_reducible refine a_chain ?_ | with_reducible refine a_lc ?_ | with_reducible refine a_yes ?_ | with_reducible refine a_gcons ?_ | with_reducible refine a_gnil ?_ | with_reducible refine w_list ?_ | with_reducible refine w_tup ?_ | with_reducible refine w_str ?_ | with_reducible refine w_rng1 ?_ | with_reducible refine w_zip ?_ | with_reducible refine w_zipA ?_
  | with_reducible refine a_tFld ?_ | with_reducible refine a_dget ?_ | with_reducible refine a_din ?_ | with_reducible refine a_dnin ?_ | with_reducible refine a_sl ?_ | with_reducible refine a_slNone ?_ | with_reducible refine a_slSome ?_
  | with_reducible refine a_isN ?_ | with_reducible refine a_notN ?_ | with_reducible refine a_eqI ?_ | with_reducible refine a_neI ?_ | with_reducible refine a_eqZ ?_ | with_reducible refine a_neZ ?_ | with_reducible refine a_ltZ ?_ | with_reducible refine a_int ?_ | with_reducible refine a_intB ?_ | with_reducible refine a_abs ?_ | with_reducible refine a_max2 ?_ | with_reducible refine a_min2 ?_ | with_reducible refine a_bm ?_
  | ((with_reducible show rLenQ _ _ _ _); first | refine a_lenT (by walk_at "hp") ?_ | refine a_lenL (by walk_at "hp") ?_)
  | with_reducible refine a_prsC ?_ | with_reducible refine a_prsN ?_ | with_reducible refine a_for ?_ | with_reducible refine a_dput ?_ | with_reducible refine w_keys ?_ | with_reducible refine w_listT ?_
  | with_reducible refine QB.a_rU ?_ | with_reducible refine QB.a_cKw ?_ | with_reducible refine QB.a_star ?_ | with_reducible refine QB.a_dget2 ?_
  | with_reducible refine QB.a_par ?_ | with_reducible refine QB.a_par3 ?_
  | with_reducible refine QB.a_srt ?_
  | with_reducible refine QB.a_dc ?_
  | with_reducible refine iteT ?_ | with_reducible refine iteNT ?_ | with_reducible refine iteNF ?_ | with_reducible refine iteF ?_ | with_reducible refine a_prop ?_)
local macro_rules | `(tactic| walk_at "aa") => `(tactic| (walk_at "a"; repeat walk_at "a"))

variable {P : Program} {w : World} {K : PySem.W.Frag} {mg : Str → Option Value} {base : Heap} {CN CC : Addr}
theorem keys_strs {R : List Str} : ∀ {kvs : List (Key × V)}, (∀ k ∈ kvs.map (·.1), k ∈ domS R) → ∃ ss : List Str, kvs.map (·.1) = ss.map Sum.inr
  | [], _ => ⟨[], rfl⟩
  | (k, v) :: kvs, h => by
    obtain ⟨ss, e⟩ := keys_strs (kvs := kvs) fun k hk => h k (List.mem_cons_of_mem _ hk)
    obtain ⟨z, _, ez⟩ := List.mem_map.mp (h k (List.mem_cons_self ..))
    exact ⟨z :: ss, by rw [List.map_cons, List.map_cons, e, ← ez]⟩
/-- list(links) -/
theorem tow_list {H : Hp} {l : Addr} {R : List Str} {L : Str → List Str} {Q : VK} (h : TowAt H l R L) (q : ∀ ss : List Str, ss.Nodup → (∀ x, x ∈ ss ↔ x ∈ R) → ∀ p H', H p = none → Same H H' → H' p = some (.lst (ss.map V.str)) → Q (.ref p) H') : rListD [.ref l] H Q := by
  obtain ⟨g, ⟨kvs, e, hv, nd, hd⟩, gg⟩ := h
  obtain ⟨ss, es⟩ := keys_strs hd
  refine ⟨l, kvs, rfl, e, fun p np => ?_⟩
  have en : ss.Nodup := by
    rw [es] at nd
    exact (List.pairwise_map.mp nd).imp fun h e => h (by rw [e])
  have em : ∀ x, x ∈ ss ↔ x ∈ R := fun x => by
    have m : (Sum.inr x : Key) ∈ kvs.map (·.1) ↔ x ∈ ss := by rw [es]; exact mem_domS
    rw [← m]
    refine ⟨fun h => mem_domS.mp (hd _ h), fun h => ?_⟩
    obtain ⟨t, e1, _⟩ := gg x h
    refine valV_mem.mp ?_
    rw [hv, e1] <;> rfl
  have e2 : (kvs.map fun kv => kV kv.1) = ss.map V.str := by
    have : (kvs.map fun kv => kV kv.1) = (kvs.map (·.1)).map kV := by rw [List.map_map]; rfl
    rw [this, es, List.map_map]
    rfl
  rw [e2]
  exact q ss en em p _ np (same_new np) upd_same
def spRanked : Sp := fun vs H Q _ => ∃ (l : Addr) (R : List Str) (L : Str → List Str), vs = [.ref l] ∧ TowAt H l R L ∧ RoutersOk R ∧ (∀ x ∈ R, ∀ n ∈ L x, n ∈ R) ∧ (∀ x, (L x).length ≤ 8) ∧
  ∀ t pr pl H' f left, Same H H' → H' t = some (.tup [.ref pr, .ref pl]) → DisAt H' pr R f → H' pl = some (.lst (left.map V.str)) → QT.RkE R L f left → Q (.ref t) H'
abbrev N_ranked : List Str := ["links", "ranks", "left", "is_done", "ready", "router", "one"]
theorem sc_ranked : FnScope N_ranked ["links"] (defScope QH.s_ranked) := ⟨rfl, rfl, rfl, by decide +kernel, rfl, by decide +kernel, by decide +kernel⟩
theorem D_ranked (T : Tx P w K mg base CN CC) (F : FunAt K mg "ranked" QH.s_ranked) : DefOk P w K mg base "ranked" ["links"] spRanked 1 := by
  refine mk_def F sc_ranked (fun _ _ _ _ _ _ us hl => match us, hl with | [_], _ => rfl) (fun vs H Q E h => by obtain ⟨l, R, L, rfl, _⟩ := h; rfl) (fun f cdv A outer s H vs Q E hr h => ?_)
  have nd := sc_ranked.nd
  obtain ⟨l, R, L, rfl, hl, ok, hL, l8, k⟩ := h
  have h8 := ok.most
  refine ⟨_, (pss_cons (ps_asg (pe_tup (pa_cons pe_dnewK (pa_cons (pe_callTy (call_list_dK rfl) (by rfl) T.f_list (by decide +kernel) (pa_cons (pv 0) pa_nil)) (pa_cons pe_bl pa_nil)))) (ki_gtup (K := K) rfl (pgs_cons (pg_name (i := 1) nd rfl (by first | exact Or.inl rfl | exact Or.inr rfl)) (pgs_cons (pg_name (i := 2) nd rfl (by first | exact Or.inl rfl | exact Or.inr rfl)) (pgs_cons (pg_name (i := 3) nd rfl (by first | exact Or.inl rfl | exact Or.inr rfl)) pgs_nil)))))
    (pss_cons (ps_while PassesOwn.never (pt_not (pt_val (pv 3))) (pss_cons (ps_set (i := 4) nd rfl (by first | exact Or.inl rfl | exact Or.inr rfl) (pe_lc (own := [("router", 5)]) (g := (gName 5)) rfl nd (ki_plist (K := K) (pv 2)) (blkOk_by (by with_unfolding_all rfl)) (fun _ _ _ _ _ => (pg_name (i := 5) nd rfl (by first | exact Or.inl rfl | exact Or.inr rfl))) (fun _ _ _ _ _ => (pts_one (pt_val (pe_callB (ki_all (K := K) rfl) (by rfl) T.f_all (by decide +kernel) (pa_cons (pe_lc (own := [("one", 6)]) (g := (gName 6)) (tt := tYes) rfl nd (ki_ptup (K := K) (pe_dget (hu_of hr) (pv 0) (pv 5) (fun _ _ => rfl))) (blkOk_by (by with_unfolding_all rfl)) (fun _ _ _ _ _ => (pg_name (i := 6) nd rfl (by first | exact Or.inl rfl | exact Or.inr rfl))) (fun _ _ _ _ _ => pts_nil) (fun _ _ _ _ _ => (pe_cmp (pc_din (hu_of hr) (pv 6) (pv 1))))) pa_nil))))) (fun _ _ _ _ _ => (pv 5))))
    (pss_cons (ps_for PassesOwn.never rfl (ki_plist (K := K) (pv 4)) (pg_name (i := 5) nd rfl (by first | exact Or.inl rfl | exact Or.inr rfl)) (pss_one (ps_dput (hu_of hr) (pv 1) (pv 5) (pe_op op_add pe_int (pe_callBK (ki_maxDf (K := K) rfl (hu8 hr)) (by rfl) T.f_max (by decide +kernel) (pa_cons (pe_lc (own := [("one", 6)]) (g := (gName 6)) (tt := tYes) rfl nd (ki_ptup (K := K) (pe_dget (hu_of hr) (pv 0) (pv 5) (fun _ _ => rfl))) (blkOk_by (by with_unfolding_all rfl)) (fun _ _ _ _ _ => (pg_name (i := 6) nd rfl (by first | exact Or.inl rfl | exact Or.inr rfl))) (fun _ _ _ _ _ => pts_nil) (fun _ _ _ _ _ => (pe_dget (hu_of hr) (pv 1) (pv 6) (fun _ _ => rfl)))) pa_nil) (pk_cons (pe_un un_neg pe_int) pk_nil))) rfl)))
    (pss_cons (ps_setLc (i := 2) (own := [("router", 5)]) (g := (gName 5)) rfl nd rfl rfl (sw_true rfl rfl rfl (by decide +kernel)) (ki_plist (K := K) (pv 2)) (blkOk_by (by with_unfolding_all rfl)) (fun _ _ _ _ _ => (pg_name (i := 5) nd rfl (by first | exact Or.inl rfl | exact Or.inr rfl))) (fun _ _ _ _ _ => (pts_one (pt_cmpR (ki_notin (K := K)) (pv 5) (pv 4) (by rfl)))) (fun _ _ _ _ _ => (pv 5)))
    (pss_one (ps_set (i := 3) nd rfl (by first | exact Or.inl rfl | exact Or.inr rfl) (pe_cmpR (ki_eqD (K := K) hr.units) (pv 4) (pe_lst pa_nil) (nomark _))))))))
    (pss_one (ps_ret (pe_tup (pa_cons (pv 1) (pa_cons (pv 2) pa_nil))))))), ?_⟩
  walk_at "aa"
  refine a_newK fun pr H1 nr s1 h1 => ?_
  walk_at "aa"
  refine tow_list (hl.same s1) fun ss sn se pl H2 nl s2 h2 => ?_
  walk_at "aa"
  refine ⟨by show 3 ≤ sizeLine; decide, fun t nt => ?_⟩
  have s3 := same_new (o := .tup [.ref pr, .ref pl, .bl false]) nt
  refine a_gtup upd_same rfl ?_
  walk_at "aa"
  have s13 := s1.trans (s2.trans s3)
  refine while_go (fun m σ H' => Same H H' ∧ ∃ pl done f left, DisAt H' pr R f ∧ H' pl = some (.lst (left.map V.str)) ∧ QT.RkI R L f left ∧ (done = true → QT.ready L f left = []) ∧ m = 2 * left.length + (if done = true then 0 else 1) ∧
    ∃ q4 q5 q6, σ = [some (.ref l), some (.ref pr), some (.ref pl), some (.bl done), q4, q5, q6]) _ ⟨s13, pl, false, fun _ => none, ss, (DK.newD (s3 _ _ (s2 _ _ h1))), s3 _ _ h2, QT.RkI.start ok.nd sn se, (fun h => nomatch h), rfl, _, _, _, rfl⟩ ?_
  rintro m σ H4 ⟨sF, pl, done, f, left, hf, hpl, rk, hdone, rfl, q4, q5, q6, rfl⟩
  walk_at "aa"
  cases done with
  | true =>
    refine iteNT ?_
    walk_at "aa"
    refine ⟨by show 2 ≤ sizeLine; decide, fun t nt => ?_⟩
    have s5 := same_new (o := .tup [.ref pr, .ref pl]) nt
    exact k t pr pl _ f left (sF.trans s5) upd_same (hf.same s5) (s5 _ _ hpl) (rk.fin hL (hdone rfl))
  | false =>
    refine iteNF ?_
    refine w_fell ?_
    have hll : left.length ≤ 8 := Nat.le_trans (nodup_le rk.nd rk.sub) h8
    walk_at "aa"
    refine ⟨pl, rfl, ⟨_, SqL.of hpl⟩, fun Dr nDr => ?_⟩
    refine lc_go (it_list hpl) (Same.refl H4) nDr (fun i acc H => acc = ((left.take i).filter fun x => (L x).all fun n => (f n).isSome).map V.str) rfl (fun _ _ _ _ _ r => r) ?_ ?_
    · rintro i acc H5 v hi sF5 hD lc r hv
      rw [List.getElem?_map] at hv
      obtain ⟨x, e1, rfl⟩ := Option.map_eq_some_iff.mp hv
      have hx := rk.sub x (List.mem_of_getElem? e1)
      obtain ⟨g, dg, gg⟩ := (hl.same sF).same sF5
      obtain ⟨t1, e2, ht1⟩ := gg x hx
      walk_at "aa"
      refine ⟨rfl, ?_⟩
      walk_at "aa"
      refine ⟨l, _, rfl, dk_ds dg e2, ?_⟩
      refine ⟨t1, rfl, ⟨_, SqT.of ht1⟩, fun D2 nD2 => ?_⟩
      refine lc_go (it_tup ht1) (Same.refl H5) nD2 (fun i acc H => acc = (((L x).take i).map fun n => (f n).isSome).map V.bl) rfl (fun _ _ _ _ _ r => r) ?_ ?_
      · rintro j acc H6 v hj sF6 hD2 lc2 r2 hv
        rw [List.getElem?_map] at hv
        obtain ⟨n, e3, rfl⟩ := Option.map_eq_some_iff.mp hv
        walk_at "aa"
        refine ⟨rfl, ?_⟩
        walk_at "aa"
        refine ⟨pr, _, rfl, dis_dg ((hf.same sF5).same sF6), ?_⟩
        refine lc_put (by have := l8 x; simp at hj; omega) nD2 (fun _ _ _ _ _ r => r) sF6 hD2 lc2 ?_
        rw [List.take_succ, e3, r2]
        simp
      · intro acc H6 sF6 hD2 lc2 r2
        rw [List.take_of_length_le (by simp)] at r2
        subst r2
        walk_at "aa"
        refine a_allB hD2 ?_
        refine a_bl ?_
        have e4 : ((L x).map fun n => (f n).isSome).all id = (L x).all fun n => (f n).isSome := by rw [List.all_map]; rfl
        rw [e4]
        cases hP : (L x).all fun n => (f n).isSome with
        | true =>
          refine iteT ?_
          walk_at "aa"
          refine lc_put (by simp at hi; omega) nDr (fun _ _ _ _ _ r => r) (sF5.trans sF6) (sF6 _ _ hD) lc ?_
          rw [filt_yes e1 hP, List.map_append, r]
          rfl
        | false =>
          refine iteF ?_
          refine lc_skip (sF5.trans sF6) (sF6 _ _ hD) lc ?_
          rw [filt_no e1 hP]
          exact r
    · intro acc H5 sF5 hDr lc r
      rw [List.take_of_length_le (by simp)] at r
      have r : acc = (QT.ready L f left).map V.str := r
      subst r
      walk_at "aa"
      refine ⟨Dr, rfl, ⟨_, SqL.of hDr⟩, ?_⟩
      have sF' := sF.trans sF5
      have hf5 := hf.same sF5
      have npr : ∀ a o, H5 a = some o → (∀ kvs, o ≠ .dK kvs) → a ≠ pr := by
        rintro a o e h rfl
        obtain ⟨kvs, e', _⟩ := hf5
        rw [e] at e'; cases e'
        exact h _ rfl
      have dDr : drop pr H5 Dr = some (.lst ((QT.ready L f left).map V.str)) := by rw [drop_ne (npr _ _ hDr fun _ h => nomatch h)]; exact hDr
      have dpl : drop pr H5 pl = some (.lst (left.map V.str)) := by rw [drop_ne (npr _ _ (sF5 _ _ hpl) fun _ h => nomatch h)]; exact sF5 _ _ hpl
      have sD : Same H (drop pr H5) := fun b o e => by rw [drop_ne (ne_of_none e nr)]; exact sF' _ _ e
      have rsub : ∀ x ∈ QT.ready L f left, x ∈ R := fun x hx => rk.sub x (QT.mem_ready.mp hx).1
      have rlen : (QT.ready L f left).length ≤ 8 := Nat.le_trans (List.length_filter_le _ _) hll
      refine for_go (F := drop pr H5) (it_list dDr) (fun j σ H' => (Same (drop pr H5) H' ∧ ∃ g, DisAt H' pr R g ∧ QT.RkJ L f ((QT.ready L f left).take j) g) ∧ ∃ q5 q6, σ = [some (.ref l), some (.ref pr), some (.ref pl), some (.bl false), some (.ref Dr), q5, q6]) ⟨⟨drop_le, f, hf5, QT.RkJ.nil⟩, _, _, rfl⟩ (fun _ _ _ h => h.1.1) (fun _ _ _ _ s h => ⟨⟨h.1.1.trans s, h.1.2.imp fun g q => ⟨q.1.same s, q.2⟩⟩, h.2⟩) ?_ ?_
      · rintro j v σ H6 hj ⟨⟨sF6, g, hg, rj⟩, q5, q6, rfl⟩ hv
        rw [List.getElem?_map] at hv
        obtain ⟨x, e1, rfl⟩ := Option.map_eq_some_iff.mp hv
        have hxr := List.mem_of_getElem? e1
        have hx := rsub x hxr
        obtain ⟨gt, dg, gg⟩ := hl.same (sD.trans sF6)
        obtain ⟨t1, e2, ht1⟩ := gg x hx
        have hsome := (QT.mem_ready.mp hxr).2
        have hold : ∀ n i, f n = some i → g n = some i := fun n i hn => by
          rw [rj.old n fun h => by
            have := rk.dis n (QT.mem_ready.mp (List.mem_of_mem_take h)).1
            rw [hn] at this; cases this]
          exact hn
        walk_at "aa"
        refine ⟨l, _, rfl, dk_ds dg e2, ?_⟩
        refine ⟨t1, rfl, ⟨_, SqT.of ht1⟩, fun D2 nD2 => ?_⟩
        refine lc_go (it_tup ht1) (Same.refl H6) nD2 (fun i acc H => acc = (((L x).take i).map fun n => (f n).getD 0).map V.int) rfl (fun _ _ _ _ _ r => r) ?_ ?_
        · rintro i acc H7 v hi sF7 hD2 lc2 r2 hv
          rw [List.getElem?_map] at hv
          obtain ⟨n, e3, rfl⟩ := Option.map_eq_some_iff.mp hv
          obtain ⟨c, hc⟩ := Option.isSome_iff_exists.mp (hsome n (List.mem_of_getElem? e3))
          walk_at "aa"
          refine ⟨rfl, ?_⟩
          walk_at "aa"
          refine ⟨pr, _, rfl, dis_ds (hg.same sF7) (hold n c hc), ?_⟩
          refine lc_put (by have := l8 x; simp at hi; omega) nD2 (fun _ _ _ _ _ r => r) sF7 hD2 lc2 ?_
          rw [List.take_succ, e3, r2]
          simp [hc]
        · intro acc H7 sF7 hD2 lc2 r2
          rw [List.take_of_length_le (by simp)] at r2
          subst r2
          walk_at "aa"
          have go : ∀ v : Int, 0 ≤ v → (∀ n ∈ L x, ∃ i, f n = some i ∧ i < v) → ∀ kvs, (DK (upd H7 pr (.dK kvs)) pr R fun z => if z = x then some (.int v) else (g z).map V.int) →
              Same (drop pr H5) (upd H7 pr (.dK kvs)) ∧ ∃ g', DisAt (upd H7 pr (.dK kvs)) pr R g' ∧ QT.RkJ L f ((QT.ready L f left).take (j + 1)) g' := fun v h0 hv kvs hk => by
            refine ⟨same_mut (sF6.trans sF7) drop_same, fun z => if z = x then some v else g z, DK.congr hk fun z => ?_, ?_⟩
            · show _ = (if z = x then some v else g z).map V.int
              by_cases c : z = x
              · rw [if_pos c, if_pos c]; rfl
              · rw [if_neg c, if_neg c]
            · rw [List.take_succ, e1]
              exact rj.put h0 hv
          refine ⟨D2, _, _, rfl, rfl, SqL.of hD2, fun e => ?_, fun e m hm hmax => ?_⟩
          · have e : L x = [] := List.map_eq_nil_iff.mp e
            walk_at "aa"
            exact dk_put (hg.same sF7) hx (by omega) fun kvs hk => ⟨go 0 (by omega) (fun n hn => by rw [e] at hn; cases hn) kvs hk, _, _, rfl⟩
          · obtain ⟨n0, hn0, en0⟩ := List.mem_map.mp hm
            walk_at "aa"
            refine dk_put (hg.same sF7) hx (by omega) fun kvs hk => ⟨go (1 + m) ?_ (fun n hn => ?_) kvs hk, _, _, rfl⟩
            · obtain ⟨c, hc⟩ := Option.isSome_iff_exists.mp (hsome n0 hn0)
              have := (rk.fall n0 c hc).2.1
              rw [hc] at en0
              simp at en0
              omega
            · obtain ⟨c, hc⟩ := Option.isSome_iff_exists.mp (hsome n hn)
              have := hmax c (List.mem_map.mpr ⟨n, hn, by rw [hc]; rfl⟩)
              exact ⟨c, hc, by omega⟩
      · rintro σ H6 ⟨⟨sF6, g, hg, rj⟩, q5, q6, rfl⟩
        rw [List.take_of_length_le (by simp)] at rj
        have hDr6 := sF6 _ _ dDr
        have hpl6 := sF6 _ _ dpl
        walk_at "aa"
        refine ⟨pl, rfl, ⟨_, SqL.of hpl6⟩, fun Dl nDl => ?_⟩
        refine lc_go (it_list hpl6) (Same.refl H6) nDl (fun i acc H => acc = ((left.take i).filter fun x => !decide (x ∈ QT.ready L f left)).map V.str) rfl (fun _ _ _ _ _ r => r) ?_ ?_
        · rintro i acc H7 v hi sF7 hD lc r hv
          rw [List.getElem?_map] at hv
          obtain ⟨x, e1, rfl⟩ := Option.map_eq_some_iff.mp hv
          walk_at "aa"
          refine ⟨rfl, ?_⟩
          walk_at "aa"
          refine a_inL (sF7 _ _ hDr6) ?_
          refine a_bl ?_
          show if (!decide (x ∈ QT.ready L f left)) = true then _ else _
          refine iteDN (fun c => ?_) (fun c => ?_)
          · walk_at "aa"
            refine lc_put (by simp at hi; omega) nDl (fun _ _ _ _ _ r => r) sF7 hD lc ?_
            rw [filt_yes e1 (by simp [c]), List.map_append, r]
            rfl
          · refine lc_skip sF7 hD lc ?_
            rw [filt_no e1 (by simp [c])]
            exact r
        · intro acc H7 sF7 hD lc r
          rw [List.take_of_length_le (by simp)] at r
          subst r
          have st := rk.step rj
          walk_at "aa"
          refine ⟨by show 0 ≤ sizeLine; decide, fun te nte => ?_⟩
          have s8 := same_new (o := .lst []) nte
          refine a_eqLS (xs := QT.ready L f left) (ys := []) (s8 _ _ (sF7 _ _ hDr6)) upd_same (fun z hz => (ok.names z (rsub z hz)).ok) (fun z hz => nomatch hz) ?_
          walk_at "aa"
          have sF8 := (sD.trans sF6).trans (sF7.trans s8)
          by_cases c : QT.ready L f left = []
          · rw [decide_eq_true c]
            have eg : g = f := funext fun x => rj.old x (by rw [c]; simp)
            have el : (left.filter fun x => !decide (x ∈ QT.ready L f left)) = left := by rw [c]; simp
            refine ⟨2 * left.length, by simp, sF8, Dl, true, f, left, by rw [← eg]; exact hg.same (sF7.trans s8), ?_, rk, (fun _ => c), by simp, _, _, _, rfl⟩
            rw [← el]
            exact s8 _ _ hD
          · rw [decide_eq_false c]
            refine ⟨_, ?_, sF8, Dl, false, g, _, hg.same (sF7.trans s8), s8 _ _ hD, st, (fun h => nomatch h), rfl, _, _, _, rfl⟩
            obtain ⟨x, hx⟩ := List.exists_mem_of_ne_nil _ c
            have : (left.filter fun x => !decide (x ∈ QT.ready L f left)).length < left.length := by
              have h1 := QT.filter_lt (R := left) (P := fun x => !decide (x ∈ QT.ready L f left)) (Q := fun _ => true) (y := x) (fun _ _ _ => rfl) (QT.mem_ready.mp hx).1 (by simp [hx]) rfl
              rw [show left.filter (fun _ => true) = left from List.filter_eq_self.mpr fun _ _ => rfl] at h1
              exact h1
            simp only [Bool.false_eq_true, if_false]
            omega
end QB
set_option Elab.async false
set_option linter.all false
set_option maxRecDepth 100000
set_option maxHeartbeats 4000000

namespace QB
open PySem PySem.Spec L2
open PyProof.Rows (envOfC)
open PySem.PyData (strOk)
open RZ (Ty4 rIsTy call_isTy pi_zipA iZipA ItzT for_zipT for_zipL)
open StX (tStar pa_star)
local macro_rules | `(tactic| walk_at "hp") => `(tactic| first | assumption | exact upd_same | (refine sg (by assumption) ?_; walk_at "hp"))
local macro_rules | `(tactic| walk_at "a") => `(tactic| first
  | with_reducible refine a_seq ?_ | with_reducible refine a_asg ?_ | with_reducible refine a_drop ?_ | with_reducible refine a_ret ?_ | with_reducible refine a_retN ?_
  | with_reducible refine a_ifS ?_ | with_reducible refine a_next ?_ | with_reducible refine a_gname ?_ | with_reducible refine a_nx ?_ | with_reducible refine a_rt ?_ | with_reducible refine a_bk ?_ | with_reducible refine a_ct ?_
  | ((with_reducible show tVar _ _ _ _); refine a_var rfl ?_) | with_reducible refine a_c ?_ | with_reducible refine a_op ?_ | with_reducible refine a_un ?_ | with_reducible refine a_cb ?_ | with_reducible refine a_nil ?_ | with_reducible refine a_cons ?_
  | with_reducible refine a_call ?_ | with_reducible refine a_meth ?_ | with_reducible refine a_make ?_ | with_reducible refine a_test ?_ | with_reducible refine a_tTest ?_ | with_reducible refine a_tand ?_ | with_reducible refine a_tor ?_ | with_reducible refine a_tnot ?_
  | with_reducible refine a_and ?_ | with_reducible refine a_or ?_ | with_reducible refine a_not ?_ | with_reducible refine a_if ?_ | with_reducible refine a_ri0 ?_ | with_reducible refine a_tup ?_ | with_reducible refine a_lst ?_
  | with_reducible refine a_bl ?_ | with_reducible refine a_sfld ?_ | with_reducible refine a_exI ?_ | with_reducible refine a_exZ ?_ | with_reducible refine a_chain ?_ | with_reducible refine a_lc ?_ | with_reducible refine a_yes ?_ | with_reducible refine a_gcons ?_ | with_reducible refine a_gnil ?_ | with_reducible refine w_list ?_ | with_reducible refine w_tup ?_ | with_reducible refine w_str ?_ | with_reducible refine w_rng1 ?_ | with_reducible refine w_zip ?_ | with_reducible refine w_zipA ?_
  | with_reducible refine a_tFld ?_ | with_reducible refine a_dget ?_ | with_reducible refine a_din ?_ | with_reducible refine a_dnin ?_ | with_reducible refine a_sl ?_ | with_reducible refine a_slNone ?_ | with_reducible refine a_slSome ?_
  | with_reducible refine a_isN ?_ | with_reducible refine a_notN ?_ | with_reducible refine a_eqI ?_ | with_reducible refine a_neI ?_ | with_reducible refine a_eqZ ?_ | with_reducible refine a_neZ ?_ | with_reducible refine a_ltZ ?_ | with_reducible refine a_int ?_ | with_reducible refine a_intB ?_ | with_reducible refine a_abs ?_ | with_reducible refine a_max2 ?_ | with_reducible refine a_min2 ?_ | with_reducible refine a_bm ?_
  | ((with_reducible show rLenQ _ _ _ _); first | refine a_lenT (by walk_at "hp") ?_ | refine a_lenL (by walk_at "hp") ?_)
  | with_reducible refine a_prsC ?_ | with_reducible refine a_prsN ?_ | with_reducible refine a_for ?_ | with_reducible refine a_dput ?_ | with_reducible refine w_keys ?_ | with_reducible refine w_listT ?_
  | with_reducible refine QB.a_rU ?_ | with_reducible refine QB.a_cKw ?_ | with_reducible refine QB.a_star ?_ | with_reducible refine QB.a_dget2 ?_
  | with_reducible refine QB.a_par ?_ | with_reducible refine QB.a_par3 ?_
  | with_reducible refine QB.a_srt ?_
  | with_reducible refine QB.a_dc ?_
  | with_reducible refine iteT ?_ | with_reducible refine iteNT ?_ | with_reducible refine iteNF ?_ | with_reducible refine iteF ?_ | with_reducible refine a_prop ?_)
local macro_rules | `(tactic| walk_at "aa") => `(tactic| (walk_at "a"; repeat walk_at "a"))

variable {P : Program} {w : World} {K : PySem.W.Frag} {mg : Str → Option Value} {base : Heap} {CN CC : Addr}
theorem at_last {α : Type} (xs : List α) (z : α) : atI (xs ++ [z]) (-1) = some z := by
  unfold atI ixN
  have : ((xs ++ [z]).length : Int) = xs.length + 1 := by simp
  rw [if_neg (by decide), if_pos (by omega)]
  have e : (-1 + ((xs ++ [z]).length : Int)).toNat = xs.length := by omega
  rw [e]
  simp
theorem at_zero {α : Type} (z : α) (xs : List α) : atI (z :: xs) 0 = some z := by
  unfold atI ixN
  rw [if_pos (by decide), if_pos (by simp <;> omega)]
  simp
theorem cut_init (xs : List V) (z : V) : cutV (xs ++ [z]) none (some (-1)) = xs := by
  unfold cutV
  have e1 : HT.sIx (xs ++ [z]).length 0 none = 0 := rfl
  have e2 : HT.sIx (xs ++ [z]).length (xs ++ [z]).length (some (-1)) = xs.length := by
    show (if (-1 : Int) < 0 then ((-1 : Int) + ((xs ++ [z]).length : Int)).toNat else min (-1 : Int).toNat (xs ++ [z]).length) = _
    rw [if_pos (by decide)]
    have : ((xs ++ [z]).length : Int) = xs.length + 1 := by simp
    omega
  rw [e1, e2]
  simp
theorem cut_strs (ss : List Str) (lo hi : Option Int) : ∃ ys : List Str, cutV (ss.map V.str) lo hi = ys.map V.str ∧ (∀ y ∈ ys, y ∈ ss) ∧ ys.length ≤ ss.length := by
  unfold cutV
  rw [← List.map_drop, ← List.map_take]
  refine ⟨_, rfl, fun y hy => List.mem_of_mem_drop (List.mem_of_mem_take hy), ?_⟩
  rw [List.length_take, List.length_drop]
  omega
theorem a_index {H : Hp} {Q : VK} {a : Addr} {z : Str} {ss : List Str} (h : H a = some (.lst (ss.map V.str))) (hz : z ∈ ss) (q : ∀ i : Int, Q (.int i) H) : rIndex K (.ref a) [.str z] H Q := by
  have ex : ∃ j, ss[j]? = some z := List.mem_iff_getElem?.mp hz
  obtain ⟨j, hj, hl⟩ := QT.least_nat (p := fun j => ss[j]? = some z) ex.choose ex.choose_spec
  refine ⟨a, _, .str z, j, .str z, rfl, rfl, SqL.of h, rfl, flat_str ss, by rw [List.getElem?_map, hj]; rfl, ?_, fun m z' hm e => ?_, q j⟩
  · show (z == z) = true
    simp
  · rw [List.getElem?_map] at e
    obtain ⟨y, ey, rfl⟩ := Option.map_eq_some_iff.mp e
    show (y == z) = false
    refine beq_eq_false_iff_ne.mpr ?_
    rintro rfl
    have := hl m ey
    omega
def spRingIn : Sp := fun vs H Q _ => ∃ (l pl : Addr) (R : List Str) (L : Str → List Str) (left : List Str), vs = [.ref l, .ref pl] ∧ TowAt H l R L ∧ H pl = some (.lst (left.map V.str)) ∧ left ≠ [] ∧ left.length ≤ 8 ∧ (∀ x ∈ left, x ∈ R) ∧ (∀ x ∈ left, ∃ n ∈ L x, n ∈ left) ∧ (∀ x, (L x).length ≤ 8) ∧
  ∀ (t : Addr) (H' : Hp) (ring : List Str), Same H H' → H' t = some (.tup (ring.map V.str)) → (∀ z ∈ ring, z ∈ left) → ring.length ≤ 20 → Q (.ref t) H'
abbrev N_ring_in : List Str := ["links", "left", "walk", "one"]
theorem sc_ring_in : FnScope N_ring_in ["links", "left"] (defScope QH.s_ring_in) := ⟨rfl, rfl, rfl, by decide +kernel, rfl, by decide +kernel, by decide +kernel⟩
theorem D_ring_in (T : Tx P w K mg base CN CC) (F : FunAt K mg "ring_in" QH.s_ring_in) : DefOk P w K mg base "ring_in" ["links", "left"] spRingIn 1 := by
  refine mk_def F sc_ring_in (fun _ _ _ _ _ _ us hl => match us, hl with | [_, _], _ => rfl) (fun vs H Q E h => by obtain ⟨l, pl, R, L, left, rfl, _⟩ := h; rfl) (fun f cdv A outer s H vs Q E hr h => ?_)
  have nd := sc_ring_in.nd
  obtain ⟨l, pl, R, L, left, rfl, hl, hpl, hne, hll, hsub, hsucc, l8, k⟩ := h
  refine ⟨_, (pss_cons (ps_set (i := 2) nd rfl (by first | exact Or.inl rfl | exact Or.inr rfl) (pe_lst (pa_cons (pe_ix (ki_ixL (K := K)) (pv 1) pe_int (fun _ _ => rfl)) pa_nil)))
    (pss_cons (ps_while PassesOwn.never (pt_cmpR (ki_notin (K := K)) (pe_ix (ki_ixL (K := K)) (pv 2) (pe_un un_neg pe_int) (fun _ _ => rfl)) (pe_slice (ki_slL (K := K)) (pv 2) po_none (po_some (pe_un un_neg pe_int))) (by rfl)) (pss_one (ps_expr (pe_bm PySem.F.plainAttrs_list PySem.F.slot_list_append PySem.F.type_list_append mt_append (pv 2) (pa_cons (pe_ix (ki_ixL (K := K)) (pe_lc (own := [("one", 3)]) (g := (gName 3)) rfl nd (ki_ptup (K := K) (pe_dget (hu_of hr) (pv 0) (pe_ix (ki_ixL (K := K)) (pv 2) (pe_un un_neg pe_int) (fun _ _ => rfl)) (fun _ _ => rfl))) (blkOk_by (by with_unfolding_all rfl)) (fun _ _ _ _ _ => (pg_name (i := 3) nd rfl (by first | exact Or.inl rfl | exact Or.inr rfl))) (fun _ _ _ _ _ => (pts_one (pt_cmpR (ki_in (K := K)) (pv 3) (pv 1) (by rfl)))) (fun _ _ _ _ _ => (pv 3))) pe_int (fun _ _ => rfl)) pa_nil)))))
    (pss_one (ps_ret (pe_callTy (ki_tuple (K := K)) (by rfl) T.f_tuple (by decide +kernel) (pa_cons (pe_slice (ki_slL (K := K)) (pv 2) (po_some (pe_bm PySem.F.plainAttrs_list PySem.F.slot_list_index PySem.F.type_list_index mt_index (pv 2) (pa_cons (pe_ix (ki_ixL (K := K)) (pv 2) (pe_un un_neg pe_int) (fun _ _ => rfl)) pa_nil))) (po_some (pe_un un_neg pe_int))) pa_nil)))))), ?_⟩
  walk_at "aa"
  obtain ⟨x0, rest, rfl⟩ := List.exists_cons_of_ne_nil hne
  refine a_ixL hpl (at_zero (V.str x0) _) ?_
  walk_at "aa"
  refine ⟨by show 1 ≤ sizeLine; decide, fun pw nw => ?_⟩
  have s1 := same_new (o := .lst [.str x0]) nw
  walk_at "aa"
  refine while_go (fun m σ H' => Same H H' ∧ ∃ wk z, H' pw = some (.lst ((wk ++ [z]).map V.str)) ∧ (∀ y ∈ wk, y ∈ x0 :: rest) ∧ z ∈ x0 :: rest ∧ wk.Nodup ∧ m = 20 - wk.length ∧ ∃ q3, σ = [some (.ref l), some (.ref pl), some (.ref pw), q3]) _
    ⟨s1, [], x0, upd_same, (fun _ h => nomatch h), List.mem_cons_self .., .nil, rfl, _, rfl⟩ ?_
  rintro m σ H2 ⟨sF, wk, z, hw, hwk, hz, hnd, rfl, q3, rfl⟩
  have hw' := hw
  rw [List.map_append] at hw'
  have wl : wk.length ≤ 8 := Nat.le_trans (nodup_le hnd hwk) hll
  walk_at "aa"
  refine a_ixL hw' (at_last _ _) ?_
  walk_at "aa"
  refine a_slL hw' fun p1 H3 n3 s3 h3 => ?_
  rw [show cutV (wk.map V.str ++ [z].map V.str) none (some (-1)) = wk.map V.str from cut_init _ _] at h3
  refine a_inL h3 ?_
  refine a_bl ?_
  show if (!decide (z ∈ wk)) = true then _ else _
  refine iteDN (fun c => ?_) (fun c => ?_)
  · refine w_fell ?_
    have sF3 := sF.trans s3
    have hw3 := s3 _ _ hw
    have hw3' := s3 _ _ hw'
    have wl' : (wk ++ [z]).length ≤ 8 := Nat.le_trans (nodup_le (m := x0 :: rest) (List.nodup_append.mpr ⟨hnd, by simp, fun a ha b hb => by rintro rfl; simp at hb; subst hb; exact c ha⟩) (fun y hy => (List.mem_append.mp hy).elim (hwk y) fun h => by rw [List.mem_singleton.mp h]; exact hz)) hll
    walk_at "aa"
    refine ⟨ty_lst hw3, ?_⟩
    walk_at "aa"
    refine a_ixL hw3' (at_last _ _) ?_
    obtain ⟨g, dg, gg⟩ := hl.same sF3
    obtain ⟨t1, e1, ht1⟩ := gg z (hsub z hz)
    refine ⟨l, _, rfl, dk_ds dg e1, ?_⟩
    refine ⟨t1, rfl, ⟨_, SqT.of ht1⟩, fun D nD => ?_⟩
    refine lc_go (it_tup ht1) (Same.refl H3) nD (fun i acc H => acc = (((L z).take i).filter fun n => decide (n ∈ x0 :: rest)).map V.str) rfl (fun _ _ _ _ _ r => r) ?_ ?_
    · rintro i acc H4 v hi sF4 hD lc r hv
      rw [List.getElem?_map] at hv
      obtain ⟨n, e2, rfl⟩ := Option.map_eq_some_iff.mp hv
      walk_at "aa"
      refine ⟨rfl, ?_⟩
      walk_at "aa"
      refine a_inL (ss := x0 :: rest) (sF4 _ _ (sF3 _ _ hpl)) ?_
      refine a_bl ?_
      refine iteD (fun c => ?_) (fun c => ?_)
      · walk_at "aa"
        refine lc_put (by have := l8 z; simp at hi; omega) nD (fun _ _ _ _ _ r => r) sF4 hD lc ?_
        rw [filt_yes e2 (decide_eq_true c), List.map_append, r]
        rfl
      · refine lc_skip sF4 hD lc ?_
        rw [filt_no e2 (decide_eq_false c)]
        exact r
    · intro acc H4 sF4 hD lc r
      rw [List.take_of_length_le (by simp)] at r
      obtain ⟨n, hn, hn'⟩ := hsucc z hz
      have hm : n ∈ (L z).filter fun n => decide (n ∈ x0 :: rest) := List.mem_filter.mpr ⟨hn, decide_eq_true hn'⟩
      obtain ⟨y, ys, ey⟩ := List.exists_cons_of_ne_nil (List.ne_nil_of_mem hm)
      have hy0 : y ∈ (L z).filter fun n => decide (n ∈ x0 :: rest) := by rw [ey]; exact List.mem_cons_self ..
      have hy : y ∈ x0 :: rest := of_decide_eq_true (p := y ∈ x0 :: rest) (List.mem_filter.mp hy0).2
      rw [ey] at r
      subst r
      walk_at "aa"
      refine a_ixL hD (at_zero _ _) ?_
      walk_at "aa"
      have hw4 := sF4 _ _ hw3
      refine a_app hw4 (by simp at wl' ⊢; omega) ?_
      refine ⟨20 - (wk ++ [z]).length, by simp at wl' ⊢; omega, same_mut (sF3.trans sF4) nw, wk ++ [z], y, by rw [upd_same, List.map_append, List.map_append, List.map_append]; rfl, fun u hu => ?_, hy, ?_, rfl, _, rfl⟩
      · rcases List.mem_append.mp hu with hu | hu
        · exact hwk u hu
        · rw [List.mem_singleton.mp hu]; exact hz
      · exact List.nodup_append.mpr ⟨hnd, by simp, fun a ha b hb => by rintro rfl; simp at hb; subst hb; exact c ha⟩
  · walk_at "aa"
    have hw3 := s3 _ _ hw
    have hw3' := s3 _ _ hw'
    refine ⟨ty_lst hw3, ?_⟩
    walk_at "aa"
    refine a_ixL hw3' (at_last _ _) ?_
    walk_at "aa"
    refine a_index hw3 (by simp) fun i => ?_
    walk_at "aa"
    obtain ⟨ys, ey, hys, yl⟩ := cut_strs (wk ++ [z]) (some i) (some (-1))
    refine a_slL hw3 fun p5 H5 n5 s5 h5 => ?_
    rw [ey] at h5
    walk_at "aa"
    refine a_tupL h5 fun t H6 n6 s6 h6 => ?_
    refine k t H6 ys (sF.trans (s3.trans (s5.trans s6))) h6 (fun u hu => ?_) (by simp at yl; omega)
    rcases List.mem_append.mp (hys u hu) with hu | hu
    · exact hwk u hu
    · rw [List.mem_singleton.mp hu]; exact hz
end QB
set_option Elab.async false
set_option linter.all false
set_option maxRecDepth 100000
set_option maxHeartbeats 4000000

namespace QB
open PySem PySem.Spec L2
open PyProof.Rows (envOfC)
open PySem.PyData (strOk)
open RZ (Ty4 rIsTy call_isTy pi_zipA iZipA ItzT for_zipT for_zipL)
open StX (tStar pa_star)
local macro_rules | `(tactic| walk_at "hp") => `(tactic| first | assumption | exact upd_same | (refine sg (by assumption) ?_; walk_at "hp"))
local macro_rules | `(tactic| walk_at "a") => `(tactic| first
  | with_reducible refine a_seq ?_ | with_reducible refine a_asg ?_ | with_reducible refine a_drop ?_ | with_reducible refine a_ret ?_ | with_reducible refine a_retN ?_
  | with_reducible refine a_ifS ?_ | with_reducible refine a_next ?_ | with_reducible refine a_gname ?_ | with_reducible refine a_nx ?_ | with_reducible refine a_rt ?_ | with_reducible refine a_bk ?_ | with_reducible refine a_ct ?_
  | ((with_reducible show tVar _ _ _ _); refine a_var rfl ?_) | with_reducible refine a_c ?_ | with_reducible refine a_op ?_ | with_reducible refine a_un ?_ | with_reducible refine a_cb ?_ | with_reducible refine a_nil ?_ | with_reducible refine a_cons ?_
  | with_reducible refine a_call ?_ | with_reducible refine a_meth ?_ | with_reducible refine a_make ?_ | with_reducible refine a_test ?_ | with_reducible refine a_tTest ?_ | with_reducible refine a_tand ?_ | with_reducible refine a_tor ?_ | with_reducible refine a_tnot ?_
  | with_reducible refine a_and ?_ | with_reducible refine a_or ?_ | with_reducible refine a_not ?_ | with_reducible refine a_if ?_ | with_reducible refine a_ri0 ?_ | with_reducible refine a_tup ?_ | with_reducible refine a_lst ?_
  | with_reducible refine a_bl ?_ | with_reducible refine a_sfld ?_ | with_reducible refine a_exI ?_ | with_reducible refine a_exZ ?_ | with_reducible refine a_chain ?_ | with_reducible refine a_lc ?_ | with_reducible refine a_yes ?_ | with_reducible refine a_gcons ?_ | with_reducible refine a_gnil ?_ | with_reducible refine w_list ?_ | with_reducible refine w_tup ?_ | with_reducible refine w_str ?_ | with_reducible refine w_rng1 ?_ | with_reducible refine w_zip ?_ | with_reducible refine w_zipA ?_
  | with_reducible refine a_tFld ?_ | with_reducible refine a_dget ?_ | with_reducible refine a_din ?_ | with_reducible refine a_dnin ?_ | with_reducible refine a_sl ?_ | with_reducible refine a_slNone ?_ | with_reducible refine a_slSome ?_
  | with_reducible refine a_isN ?_ | with_reducible refine a_notN ?_ | with_reducible refine a_eqI ?_ | with_reducible refine a_neI ?_ | with_reducible refine a_eqZ ?_ | with_reducible refine a_neZ ?_ | with_reducible refine a_ltZ ?_ | with_reducible refine a_int ?_ | with_reducible refine a_intB ?_ | with_reducible refine a_abs ?_ | with_reducible refine a_max2 ?_ | with_reducible refine a_min2 ?_ | with_reducible refine a_bm ?_
  | ((with_reducible show rLenQ _ _ _ _); first | refine a_lenT (by walk_at "hp") ?_ | refine a_lenL (by walk_at "hp") ?_)
  | with_reducible refine a_prsC ?_ | with_reducible refine a_prsN ?_ | with_reducible refine a_for ?_ | with_reducible refine a_dput ?_ | with_reducible refine w_keys ?_ | with_reducible refine w_listT ?_
  | with_reducible refine QB.a_rU ?_ | with_reducible refine QB.a_cKw ?_ | with_reducible refine QB.a_star ?_ | with_reducible refine QB.a_dget2 ?_
  | with_reducible refine QB.a_par ?_ | with_reducible refine QB.a_par3 ?_
  | with_reducible refine QB.a_srt ?_
  | with_reducible refine QB.a_dc ?_
  | with_reducible refine iteT ?_ | with_reducible refine iteNT ?_ | with_reducible refine iteNF ?_ | with_reducible refine iteF ?_ | with_reducible refine a_prop ?_)
local macro_rules | `(tactic| walk_at "aa") => `(tactic| (walk_at "a"; repeat walk_at "a"))

variable {P : Program} {w : World} {K : PySem.W.Frag} {mg : Str → Option Value} {base : Heap} {CN CC : Addr}
/-- no ring -/
def QuietL (R : List Str) (L : Str → List Str) : Prop := ∃ rank : Str → Nat, ∀ x ∈ R, ∀ n ∈ L x, rank n < rank x
/-- a table's rows -/
structure TabOk (R : List Str) (nx : Str → Str → List Str) : Prop where
  len : ∀ x d, (nx x d).length ≤ 8
  mem : ∀ x d, ∀ n ∈ nx x d, n ∈ R
/-- a ring, found -/
structure RingOk (R : List Str) (d : Str) (ring : List Str) : Prop where
  mem : ∀ z ∈ ring, z ∈ R ∧ z ≠ d
  len : ring.length ≤ 20
theorem both_sub {R : List Str} {nx nx' : Str → Str → List Str} {d x n : Str} (h : n ∈ both R nx nx' d x) : n ∈ R ∧ x ≠ d := by
  unfold both at h
  by_cases c : x = d
  · rw [if_pos c] at h; cases h
  · rw [if_neg c] at h
    exact ⟨(List.mem_filter.mp h).1, c⟩
theorem both_len {R : List Str} {nx nx' : Str → Str → List Str} {d x : Str} (h : R.length ≤ 8) : (both R nx nx' d x).length ≤ 8 := by
  unfold both
  by_cases c : x = d
  · rw [if_pos c]; simp
  · rw [if_neg c]; exact Nat.le_trans (List.length_filter_le _ _) h
def spRingFor : Sp := fun vs H Q _ => ∃ (r p q : Addr) (R : List Str) (nx nx' : Str → Str → List Str) (d : Str), vs = [.ref r, .ref p, .ref q, .str d] ∧ H r = some (.tup (R.map V.str)) ∧ TabAt H p R nx ∧ TabAt H q R nx' ∧ TabOk R nx ∧ TabOk R nx' ∧ RoutersOk R ∧ d ∈ R ∧
  (∀ H', Same H H' → QuietL R (both R nx nx' d) → Q .non H') ∧
  ∀ (H' : Hp) (t tr tl : Addr) (ring : List Str), Same H H' → ¬ QuietL R (both R nx nx' d) → H' t = some (.tup [.ref tr, .ref tl]) → H' tr = some (.tup (ring.map V.str)) → RingOk R d ring → Q (.ref t) H'
abbrev N_ring_for : List Str := ["routers", "tables", "others", "d", "links", "left", "ring", "behind", "learnt", "router", "other"]
theorem sc_ring_for : FnScope N_ring_for ["routers", "tables", "others", "d"] (defScope QH.s_ring_for) := ⟨rfl, rfl, rfl, by decide +kernel, rfl, by decide +kernel, by decide +kernel⟩
theorem D_ring_for (T : Tx P w K mg base CN CC) (F : FunAt K mg "ring_for" QH.s_ring_for) (D_links_towards : DefOk P w K mg base "links_towards" ["routers", "tables", "others", "d"] spTowards 1) (D_ranked : DefOk P w K mg base "ranked" ["links"] spRanked 1)
    (D_ring_in : DefOk P w K mg base "ring_in" ["links", "left"] spRingIn 1) : DefOk P w K mg base "ring_for" ["routers", "tables", "others", "d"] spRingFor 2 := by
  refine mk_def F sc_ring_for (fun _ _ _ _ _ _ us hl => match us, hl with | [_, _, _, _], _ => rfl) (fun vs H Q E h => by obtain ⟨r, p, q, R, nx, nx', d, rfl, _⟩ := h; rfl) (fun f cdv A outer s H vs Q E hr h => ?_)
  have nd := sc_ring_for.nd
  obtain ⟨r, p, q, R, nx, nx', d, rfl, hrr, hp, hq, t1, t2, ok, hd, k1, k2⟩ := h
  have h8 := ok.most
  refine ⟨_, (pss_cons (ps_set (i := 4) nd rfl (by first | exact Or.inl rfl | exact Or.inr rfl) (pe_callD D_links_towards (hr.mono (by decide)) (by rfl) (pa_cons (pv 0) (pa_cons (pv 1) (pa_cons (pv 2) (pa_cons (pv 3) pa_nil))))))
    (pss_cons (ps_set (i := 5) nd rfl (by first | exact Or.inl rfl | exact Or.inr rfl) (pe_ix (ki_ixT (K := K)) (pe_callD D_ranked (hr.mono (by decide)) (by rfl) (pa_cons (pv 4) pa_nil)) pe_int (fun _ _ => rfl)))
    (pss_cons (ps_if (pt_cmpR (ki_eqD (K := K) hr.units) (pv 5) (pe_lst pa_nil) (nomark _)) (pss_one (ps_ret pe_non)) pss_nil)
    (pss_cons (ps_set (i := 6) nd rfl (by first | exact Or.inl rfl | exact Or.inr rfl) (pe_callD D_ring_in (hr.mono (by decide)) (by rfl) (pa_cons (pv 4) (pa_cons (pv 5) pa_nil))))
    (pss_cons (ps_set (i := 7) nd rfl (by first | exact Or.inl rfl | exact Or.inr rfl) (pe_op (ki_catA (K := K)) (pe_slice (ki_slA (K := K)) (pv 6) (po_some pe_int) po_none) (pe_slice (ki_slA (K := K)) (pv 6) po_none (po_some pe_int))))
    (pss_cons (ps_set (i := 8) nd rfl (by first | exact Or.inl rfl | exact Or.inr rfl) (pe_lc (own := [("router", 9), ("other", 10)]) (g := (gTup K 2 (gCons (gName 9) (gCons (gName 10) gNil)))) rfl nd (pi_zipT (by rfl) T.f_zip (pa_cons (pv 6) (pa_cons (pv 7) pa_nil))) (blkOk_by (by with_unfolding_all rfl)) (fun _ _ _ _ _ => (ki_gtup (K := K) rfl (pgs_cons (pg_name (i := 9) nd rfl (by first | exact Or.inl rfl | exact Or.inr rfl)) (pgs_cons (pg_name (i := 10) nd rfl (by first | exact Or.inl rfl | exact Or.inr rfl)) pgs_nil)))) (fun _ _ _ _ _ => (pts_one (pt_cmpR (ki_notin (K := K)) (pv 10) (pe_dget (hu_of hr) (pv 1) (pe_tup (pa_cons (pv 9) (pa_cons (pv 3) pa_nil))) (fun _ _ => rfl)) (by rfl)))) (fun _ _ _ _ _ => (pv 9))))
    (pss_one (ps_ret (pe_tup (pa_cons (pv 6) (pa_cons (pe_callTy (ki_tuple (K := K)) (by rfl) T.f_tuple (by decide +kernel) (pa_cons (pe_lc (own := [("router", 9)]) (g := (gName 9)) rfl nd (ki_ptup (K := K) (pv 0)) (blkOk_by (by with_unfolding_all rfl)) (fun _ _ _ _ _ => (pg_name (i := 9) nd rfl (by first | exact Or.inl rfl | exact Or.inr rfl))) (fun _ _ _ _ _ => (pts_one (pt_cmpR (ki_in (K := K)) (pv 9) (pv 8) (by rfl)))) (fun _ _ _ _ _ => (pv 9))) pa_nil)) pa_nil))))))))))), ?_⟩
  walk_at "aa"
  refine ⟨r, p, q, R, nx, nx', d, rfl, hrr, hp, hq, t1.len, t2.len, h8, hd, fun l H1 s1 hl => ?_⟩
  walk_at "aa"
  refine ⟨l, R, both R nx nx' d, rfl, hl, ok, fun x _ n hn => (both_sub hn).1, fun x => both_len h8, fun t pr pl H2 f left s2 ht hpr hpl rk => ?_⟩
  walk_at "aa"
  refine a_ixT ht (show atI [V.ref pr, V.ref pl] 1 = some (V.ref pl) from rfl) ?_
  walk_at "aa"
  refine ⟨by show 0 ≤ sizeLine; decide, fun te nte => ?_⟩
  have s3 := same_new (o := .lst []) nte
  refine a_eqLS (xs := left) (ys := []) (s3 _ _ hpl) upd_same (fun z hz => (ok.names z (rk.sub z hz)).ok) (fun z hz => nomatch hz) ?_
  have s12 := s1.trans (s2.trans s3)
  refine a_bl ?_
  refine iteD (fun c => ?_) (fun c => ?_)
  · walk_at "aa"
    exact k1 _ s12 (rk.iff.mp c)
  walk_at "aa"
  have nq : ¬ QuietL R (both R nx nx' d) := fun h => c (rk.iff.mpr h)
  refine ⟨l, pl, R, both R nx nx' d, left, rfl, hl.same (s2.trans s3), s3 _ _ hpl, c, Nat.le_trans (nodup_le rk.nd rk.sub) h8, rk.sub, rk.succ, fun x => both_len h8, fun tr H4 ring s4 htr hring hrl => ?_⟩
  have rok : RingOk R d ring := ⟨fun z hz => by
    have h1 := hring z hz
    obtain ⟨n, hn, _⟩ := rk.succ z h1
    exact ⟨rk.sub z h1, (both_sub hn).2⟩, hrl⟩
  have s14 := s12.trans s4
  walk_at "aa"
  obtain ⟨y1, ey1, hy1, ly1⟩ := cut_strs ring (some 1) none
  refine a_slT htr fun p5 H5 s5 h5 => ?_
  rw [ey1] at h5
  walk_at "aa"
  obtain ⟨y2, ey2, hy2, ly2⟩ := cut_strs ring none (some 1)
  refine a_slT (s5 _ _ htr) fun p6 H6 s6 h6 => ?_
  rw [ey2] at h6
  refine a_catA (s6 _ _ h5) h6 (by simp; omega) fun p7 H7 s7 h7 => ?_
  have s47 := s5.trans (s6.trans s7)
  have htr7 := s47 _ _ htr
  have s17 := s14.trans s47
  rw [← List.map_append] at h7
  walk_at "aa"
  refine ⟨tr, p7, _, _, rfl, .inr ⟨SqT.of htr7, SqT.of h7, fun D nD => ?_⟩⟩
  refine lc_go (it_zipT htr7 h7) (Same.refl H7) nD (fun i acc _ => ∃ ys : List Str, acc = ys.map V.str) ⟨[], rfl⟩ (fun _ _ _ _ _ r => r) ?_ ?_
  · rintro i acc H8 v hi sF hD lc ⟨ys, rfl⟩ ⟨T', x', y', rfl, hT, hx, hy⟩
    rw [List.getElem?_map] at hx hy
    obtain ⟨x, ex, rfl⟩ := Option.map_eq_some_iff.mp hx
    obtain ⟨y, ey, rfl⟩ := Option.map_eq_some_iff.mp hy
    have hxr := rok.mem x (List.mem_of_getElem? ex)
    refine a_gtup hT rfl ?_
    walk_at "aa"
    refine ⟨rfl, ?_⟩
    walk_at "aa"
    obtain ⟨g, dg, gg⟩ := hp.same (s17.trans sF)
    obtain ⟨u, eu, hu⟩ := gg x d ⟨hxr.1, hd⟩
    refine ⟨by show 2 ≤ sizeLine; decide, fun a9 n9 => ?_⟩
    have s9 := same_new (o := .tup [.str x, .str d]) n9
    refine ⟨p, _, rfl, dt_ds (dg.same s9) upd_same eu, ?_⟩
    refine a_inT (s9 _ _ hu) ?_
    refine a_bl ?_
    show if (!decide (y ∈ nx x d)) = true then _ else _
    refine iteDN (fun c => ?_) (fun c => ?_)
    · walk_at "aa"
      exact lc_put (by have := rok.len; simp at hi; omega) nD (fun _ _ _ _ _ r => r) (sF.trans s9) (s9 _ _ hD) lc ⟨ys ++ [x], by simp⟩
    · exact lc_skip (sF.trans s9) (s9 _ _ hD) lc ⟨ys, rfl⟩
  · rintro acc H8 sF hD lc ⟨ys, rfl⟩
    walk_at "aa"
    refine ⟨r, rfl, ⟨_, SqT.of ((s17.trans sF) _ _ hrr)⟩, fun D2 nD2 => ?_⟩
    refine lc_go (it_tup ((s17.trans sF) _ _ hrr)) (Same.refl H8) nD2 (fun i acc _ => True) trivial (fun _ _ _ _ _ r => r) ?_ ?_
    · rintro i acc H9 v hi sF9 hD2 lc2 _ hv
      rw [List.getElem?_map] at hv
      obtain ⟨x, ex, rfl⟩ := Option.map_eq_some_iff.mp hv
      walk_at "aa"
      refine ⟨rfl, ?_⟩
      walk_at "aa"
      refine a_inL (sF9 _ _ hD) ?_
      refine a_bl ?_
      refine iteD (fun c => ?_) (fun c => ?_)
      · walk_at "aa"
        exact lc_put (by simp at hi; omega) nD2 (fun _ _ _ _ _ r => r) sF9 hD2 lc2 trivial
      · exact lc_skip sF9 hD2 lc2 trivial
    · intro acc H9 sF9 hD2 lc2 _
      walk_at "aa"
      refine a_tupL hD2 fun tl H10 n10 s10 h10 => ?_
      walk_at "aa"
      refine ⟨by show 2 ≤ sizeLine; decide, fun t11 n11 => ?_⟩
      have s11 := same_new (o := .tup [.ref tr, .ref tl]) n11
      have sE := sF.trans (sF9.trans (s10.trans s11))
      exact k2 _ t11 tr tl ring (s17.trans sE) nq upd_same (sE _ _ htr7) rok
def AllQL (R : List Str) (nx nx' : Str → Str → List Str) : Prop := ∀ d ∈ R, QuietL R (both R nx nx' d)
def spTurns : Sp := fun vs H Q _ => ∃ (r p q : Addr) (R : List Str) (nx nx' : Str → Str → List Str), vs = [.ref r, .ref p, .ref q] ∧ H r = some (.tup (R.map V.str)) ∧ TabAt H p R nx ∧ TabAt H q R nx' ∧ TabOk R nx ∧ TabOk R nx' ∧ RoutersOk R ∧
  (∀ H', Same H H' → AllQL R nx nx' → Q .non H') ∧
  ∀ (H' : Hp) (t tr tl : Addr) (d : Str) (ring : List Str), Same H H' → ¬ AllQL R nx nx' → d ∈ R → H' t = some (.tup [.str d, .ref tr, .ref tl]) → H' tr = some (.tup (ring.map V.str)) → RingOk R d ring → Q (.ref t) H'
abbrev N_turns : List Str := ["routers", "tables", "others", "d", "found"]
theorem sc_turns : FnScope N_turns ["routers", "tables", "others"] (defScope QH.s_turns) := ⟨rfl, rfl, rfl, by decide +kernel, rfl, by decide +kernel, by decide +kernel⟩
theorem D_turns (T : Tx P w K mg base CN CC) (F : FunAt K mg "turns" QH.s_turns) (D_ring_for : DefOk P w K mg base "ring_for" ["routers", "tables", "others", "d"] spRingFor 2) : DefOk P w K mg base "turns" ["routers", "tables", "others"] spTurns 3 := by
  refine mk_def F sc_turns (fun _ _ _ _ _ _ us hl => match us, hl with | [_, _, _], _ => rfl) (fun vs H Q E h => by obtain ⟨r, p, q, R, nx, nx', rfl, _⟩ := h; rfl) (fun f cdv A outer s H vs Q E hr h => ?_)
  have nd := sc_turns.nd
  obtain ⟨r, p, q, R, nx, nx', rfl, hrr, hp, hq, t1, t2, ok, k1, k2⟩ := h
  refine ⟨_, (pss_cons (ps_for PassesOwn.never rfl (ki_ptup (K := K) (pv 0)) (pg_name (i := 3) nd rfl (by first | exact Or.inl rfl | exact Or.inr rfl)) (pss_cons (ps_set (i := 4) nd rfl (by first | exact Or.inl rfl | exact Or.inr rfl) (pe_callD D_ring_for (hr.mono (by decide)) (by rfl) (pa_cons (pv 0) (pa_cons (pv 1) (pa_cons (pv 2) (pa_cons (pv 3) pa_nil))))))
    (pss_one (ps_if (pt_cmpR op_notN1 (pv 4) pe_non (nomark _)) (pss_one (ps_ret (pe_tup (pa_cons (pv 3) (ki_star (K := K) (pv 4)))))) pss_nil))))
    (pss_one (ps_ret pe_non))), ?_⟩
  walk_at "aa"
  refine ⟨r, rfl, ⟨_, SqT.of hrr⟩, ?_⟩
  refine for_go (F := H) (it_tup hrr) (fun i σ H' => (Same H H' ∧ ∀ d ∈ R.take i, QuietL R (both R nx nx' d)) ∧ ∃ q3 q4, σ = [some (.ref r), some (.ref p), some (.ref q), q3, q4]) ⟨⟨Same.refl H, fun d h => by simp at h⟩, _, _, rfl⟩ (fun _ _ _ h => h.1.1) (fun _ _ _ _ s h => ⟨⟨h.1.1.trans s, h.1.2⟩, h.2⟩) ?_ ?_
  · rintro i x σ H2 hi ⟨⟨sF, hA⟩, q3, q4, rfl⟩ hx
    rw [List.getElem?_map] at hx
    obtain ⟨d, e1, rfl⟩ := Option.map_eq_some_iff.mp hx
    have hd := List.mem_of_getElem? e1
    walk_at "aa"
    refine ⟨r, p, q, R, nx, nx', d, rfl, sF _ _ hrr, hp.same sF, hq.same sF, t1, t2, ok, hd, fun H3 s3 hq3 => ?_, fun H3 t tr tl ring s3 nq ht htr rok => ?_⟩
    · walk_at "aa"
      refine iteYN rfl ?_
      walk_at "aa"
      refine ⟨⟨sF.trans s3, fun d' h => ?_⟩, _, _, rfl⟩
      rcases (mem_take e1).mp h with h | h
      · exact hA d' h
      · rw [h]; exact hq3
    · walk_at "aa"
      refine iteZN (fun h => nomatch h) ?_
      walk_at "aa"
      refine ⟨t, _, rfl, .inl (SqT.of ht), ?_⟩
      walk_at "aa"
      refine ⟨by show 3 ≤ sizeLine; decide, fun t5 n5 => ?_⟩
      have s5 := same_new (o := .tup [.str d, .ref tr, .ref tl]) n5
      exact k2 _ t5 tr tl d ring (sF.trans (s3.trans s5)) (fun h => nq (h d hd)) hd upd_same (s5 _ _ htr) rok
  · rintro σ H2 ⟨⟨sF, hA⟩, q3, q4, rfl⟩
    walk_at "aa"
    refine k1 H2 sF fun d hd => hA d ?_
    rw [List.take_of_length_le (by simp)]
    exact hd
end QB
set_option Elab.async false
set_option linter.all false
set_option maxRecDepth 100000
set_option maxHeartbeats 4000000

namespace QB
open PySem PySem.Spec L2
open PyProof.Rows (envOfC)
open PySem.PyData (strOk)
open RZ (Ty4 rIsTy call_isTy pi_zipA iZipA ItzT for_zipT for_zipL)
open StX (tStar pa_star)
local macro_rules | `(tactic| walk_at "hp") => `(tactic| first | assumption | exact upd_same | (refine sg (by assumption) ?_; walk_at "hp"))
local macro_rules | `(tactic| walk_at "a") => `(tactic| first
  | with_reducible refine a_seq ?_ | with_reducible refine a_asg ?_ | with_reducible refine a_drop ?_ | with_reducible refine a_ret ?_ | with_reducible refine a_retN ?_
  | with_reducible refine a_ifS ?_ | with_reducible refine a_next ?_ | with_reducible refine a_gname ?_ | with_reducible refine a_nx ?_ | with_reducible refine a_rt ?_ | with_reducible refine a_bk ?_ | with_reducible refine a_ct ?_
  | ((with_reducible show tVar _ _ _ _); refine a_var rfl ?_) | with_reducible refine a_c ?_ | with_reducible refine a_op ?_ | with_reducible refine a_un ?_ | with_reducible refine a_cb ?_ | with_reducible refine a_nil ?_ | with_reducible refine a_cons ?_
  | with_reducible refine a_call ?_ | with_reducible refine a_meth ?_ | with_reducible refine a_make ?_ | with_reducible refine a_test ?_ | with_reducible refine a_tTest ?_ | with_reducible refine a_tand ?_ | with_reducible refine a_tor ?_ | with_reducible refine a_tnot ?_
  | with_reducible refine a_and ?_ | with_reducible refine a_or ?_ | with_reducible refine a_not ?_ | with_reducible refine a_if ?_ | with_reducible refine a_ri0 ?_ | with_reducible refine a_tup ?_ | with_reducible refine a_lst ?_
  | with_reducible refine a_bl ?_ | with_reducible refine a_sfld ?_ | with_reducible refine a_exI ?_ | with_reducible refine a_exZ ?_ | with_reducible refine a_chain ?_ | with_reducible refine a_lc ?_ | with_reducible refine a_yes ?_ | with_reducible refine a_gcons ?_ | with_reducible refine a_gnil ?_ | with_reducible refine w_list ?_ | with_reducible refine w_tup ?_ | with_reducible refine w_str ?_ | with_reducible refine w_rng1 ?_ | with_reducible refine w_zip ?_ | with_reducible refine w_zipA ?_
  | with_reducible refine a_tFld ?_ | with_reducible refine a_dget ?_ | with_reducible refine a_din ?_ | with_reducible refine a_dnin ?_ | with_reducible refine a_sl ?_ | with_reducible refine a_slNone ?_ | with_reducible refine a_slSome ?_
  | with_reducible refine a_isN ?_ | with_reducible refine a_notN ?_ | with_reducible refine a_eqI ?_ | with_reducible refine a_neI ?_ | with_reducible refine a_eqZ ?_ | with_reducible refine a_neZ ?_ | with_reducible refine a_ltZ ?_ | with_reducible refine a_int ?_ | with_reducible refine a_intB ?_ | with_reducible refine a_abs ?_ | with_reducible refine a_max2 ?_ | with_reducible refine a_min2 ?_ | with_reducible refine a_bm ?_
  | ((with_reducible show rLenQ _ _ _ _); first | refine a_lenT (by walk_at "hp") ?_ | refine a_lenL (by walk_at "hp") ?_)
  | with_reducible refine a_prsC ?_ | with_reducible refine a_prsN ?_ | with_reducible refine a_for ?_ | with_reducible refine a_dput ?_ | with_reducible refine w_keys ?_ | with_reducible refine w_listT ?_
  | with_reducible refine QB.a_rU ?_ | with_reducible refine QB.a_cKw ?_ | with_reducible refine QB.a_star ?_ | with_reducible refine QB.a_dget2 ?_
  | with_reducible refine QB.a_par ?_ | with_reducible refine QB.a_par3 ?_
  | with_reducible refine QB.a_srt ?_
  | with_reducible refine QB.a_dc ?_
  | with_reducible refine iteT ?_ | with_reducible refine iteNT ?_ | with_reducible refine iteNF ?_ | with_reducible refine iteF ?_ | with_reducible refine a_prop ?_)
local macro_rules | `(tactic| walk_at "aa") => `(tactic| (walk_at "a"; repeat walk_at "a"))

variable {P : Program} {w : World} {K : PySem.W.Frag} {mg : Str → Option Value} {base : Heap} {CN CC : Addr}
/-- two tables, each in a pair -/
def TwoT (H : Hp) (R : List Str) (x : V) : Prop := ∃ a p nx b, x = .ref a ∧ H a = some (.tup [.ref p, .bl b]) ∧ TabAt H p R nx ∧ TabOk R nx
theorem TwoT.same {H H' : Hp} {R : List Str} {x : V} (s : Same H H') (h : TwoT H R x) : TwoT H' R x := by
  obtain ⟨a, p, nx, b, e, h1, h2, h3⟩ := h
  exact ⟨a, p, nx, b, e, s _ _ h1, h2.same s, h3⟩
def spLossFor : Sp := fun vs H Q _ => ∃ (r p q : Addr) (R : List Str) (nx nx' : Str → Str → List Str) (d : Str), vs = [.ref r, .ref p, .ref q, .str d] ∧ H r = some (.tup (R.map V.str)) ∧ TabAt H p R nx ∧ TabAt H q R nx' ∧ TabOk R nx ∧ TabOk R nx' ∧ RoutersOk R ∧ d ∈ R ∧
  (∀ H', Same H H' → Q .non H') ∧ ∀ (H' : Hp) (t : Addr) (u v : V), Same H H' → H' t = some (.tup [u, v]) → Q (.ref t) H'
abbrev N_loss_for : List Str := ["routers", "tables", "others", "d", "first", "is_learnt", "second", "is_known", "router", "other", "one", "learnt"]
theorem sc_loss_for : FnScope N_loss_for ["routers", "tables", "others", "d"] (defScope QH.s_loss_for) := ⟨rfl, rfl, rfl, by decide +kernel, rfl, by decide +kernel, by decide +kernel⟩
theorem D_loss_for (T : Tx P w K mg base CN CC) (F : FunAt K mg "loss_for" QH.s_loss_for) : DefOk P w K mg base "loss_for" ["routers", "tables", "others", "d"] spLossFor 1 := by
  refine mk_def F sc_loss_for (fun _ _ _ _ _ _ us hl => match us, hl with | [_, _, _, _], _ => rfl) (fun vs H Q E h => by obtain ⟨r, p, q, R, nx, nx', d, rfl, _⟩ := h; rfl) (fun f cdv A outer s H vs Q E hr h => ?_)
  have nd := sc_loss_for.nd
  obtain ⟨r, p, q, R, nx, nx', d, rfl, hrr, hp, hq, t1, t2, ok, hd, k1, k2⟩ := h
  have h8 := ok.most
  refine ⟨_, (pss_cons (ps_for PassesOwn.never rfl (ki_ptup (K := K) (pe_tup (pa_cons (pe_tup (pa_cons (pv 1) (pa_cons pe_bl pa_nil))) (pa_cons (pe_tup (pa_cons (pv 2) (pa_cons pe_bl pa_nil))) pa_nil)))) (ki_gtup (K := K) rfl (pgs_cons (pg_name (i := 4) nd rfl (by first | exact Or.inl rfl | exact Or.inr rfl)) (pgs_cons (pg_name (i := 5) nd rfl (by first | exact Or.inl rfl | exact Or.inr rfl)) pgs_nil))) (pss_one (ps_for PassesOwn.never rfl (ki_ptup (K := K) (pe_tup (pa_cons (pe_tup (pa_cons (pv 1) (pa_cons pe_bl pa_nil))) (pa_cons (pe_tup (pa_cons (pv 2) (pa_cons pe_bl pa_nil))) pa_nil)))) (ki_gtup (K := K) rfl (pgs_cons (pg_name (i := 6) nd rfl (by first | exact Or.inl rfl | exact Or.inr rfl)) (pgs_cons (pg_name (i := 7) nd rfl (by first | exact Or.inl rfl | exact Or.inr rfl)) pgs_nil))) (pss_one (ps_for PassesOwn.never rfl (ki_plist (K := K) (pe_lc (own := [("one", 10)]) (g := (gName 10)) rfl nd (ki_ptup (K := K) (pv 0)) (blkOk_by (by with_unfolding_all rfl)) (fun _ _ _ _ _ => (pg_name (i := 10) nd rfl (by first | exact Or.inl rfl | exact Or.inr rfl))) (fun _ _ _ _ _ => (pts_one (pt_cmpR op_ne (pv 10) (pv 3) (nomark _)))) (fun _ _ _ _ _ => (pv 10)))) (pg_name (i := 8) nd rfl (by first | exact Or.inl rfl | exact Or.inr rfl)) (pss_one (ps_for PassesOwn.never rfl (ki_ptup (K := K) (pe_dget (hu_of hr) (pv 4) (pe_tup (pa_cons (pv 8) (pa_cons (pv 3) pa_nil))) (fun _ _ => rfl))) (pg_name (i := 9) nd rfl (by first | exact Or.inl rfl | exact Or.inr rfl)) (pss_one (ps_if (PW.pt (pw_and (pt_cmpR op_ne (pv 9) (pv 3) (nomark _)) (pw_and1 (pt_cmpR (ki_eqD (K := K) hr.units) (pe_dget (hu_of hr) (pv 6) (pe_tup (pa_cons (pv 9) (pa_cons (pv 3) pa_nil))) (fun _ _ => rfl)) (pe_tup pa_nil) (nomark _))))) (pss_cons (ps_set (i := 11) nd rfl (by first | exact Or.inl rfl | exact Or.inr rfl) (pe_op op_cat (pe_op op_rep (pe_lst (pa_cons (pv 8) pa_nil)) (pe_callTy c_int (by rfl) T.f_int (by decide +kernel) (pa_cons (pv 5) pa_nil))) (pe_op op_rep (pe_lst (pa_cons (pv 9) pa_nil)) (pe_callTy c_int (by rfl) T.f_int (by decide +kernel) (pa_cons (pv 7) pa_nil)))))
    (pss_one (ps_ret (pe_tup (pa_cons (pe_tup (pa_cons (pv 8) (pa_cons (pv 9) pa_nil))) (pa_cons (pe_callTy (ki_tuple (K := K)) (by rfl) T.f_tuple (by decide +kernel) (pa_cons (pe_lc (own := [("one", 10)]) (g := (gName 10)) rfl nd (ki_ptup (K := K) (pv 0)) (blkOk_by (by with_unfolding_all rfl)) (fun _ _ _ _ _ => (pg_name (i := 10) nd rfl (by first | exact Or.inl rfl | exact Or.inr rfl))) (fun _ _ _ _ _ => (pts_one (pt_cmpR (ki_in (K := K)) (pv 10) (pv 11) (by rfl)))) (fun _ _ _ _ _ => (pv 10))) pa_nil)) pa_nil)))))) pss_nil)))))))))
    (pss_one (ps_ret pe_non))), ?_⟩
  walk_at "aa"
  refine ⟨by show 2 ≤ sizeLine; decide, fun a1 n1 => ?_⟩
  have s1 := same_new (o := .tup [.ref p, .bl false]) n1
  walk_at "aa"
  refine ⟨by show 2 ≤ sizeLine; decide, fun a2 n2 => ?_⟩
  have s2 := same_new (o := .tup [.ref q, .bl true]) n2
  walk_at "aa"
  refine ⟨by show 2 ≤ sizeLine; decide, fun a3 n3 => ?_⟩
  have s3 := same_new (o := .tup [.ref a1, .ref a2]) n3
  have sF0 := s1.trans (s2.trans s3)
  have tw : ∀ x ∈ [V.ref a1, V.ref a2], TwoT (upd (upd (upd H a1 (.tup [.ref p, .bl false])) a2 (.tup [.ref q, .bl true])) a3 (.tup [.ref a1, .ref a2])) R x := by
    intro x hx
    rcases List.mem_cons.mp hx with rfl | hx
    · exact ⟨a1, p, nx, false, rfl, s3 _ _ (s2 _ _ upd_same), hp.same sF0, t1⟩
    · rw [List.mem_singleton.mp hx]
      exact ⟨a2, q, nx', true, rfl, s3 _ _ upd_same, hq.same sF0, t2⟩
  have h3 : upd (upd (upd H a1 (.tup [.ref p, .bl false])) a2 (.tup [.ref q, .bl true])) a3 (.tup [.ref a1, .ref a2]) a3 = some (.tup [.ref a1, .ref a2]) := upd_same
  generalize upd (upd (upd H a1 (.tup [.ref p, .bl false])) a2 (.tup [.ref q, .bl true])) a3 (.tup [.ref a1, .ref a2]) = H0 at *
  refine ⟨a3, rfl, ⟨_, SqT.of h3⟩, ?_⟩
  refine for_go (F := H0) (it_tup h3) (fun i σ H' => Same H0 H' ∧ ∃ q4 q5 q6 q7 q8 q9 q10 q11, σ = [some (.ref r), some (.ref p), some (.ref q), some (.str d), q4, q5, q6, q7, q8, q9, q10, q11]) ⟨Same.refl H0, _, _, _, _, _, _, _, _, rfl⟩ (fun _ _ _ h => h.1) (fun _ _ _ _ s h => ⟨h.1.trans s, h.2⟩) ?_ ?_
  rotate_left
  · rintro σ H2 ⟨sF, q4, q5, q6, q7, q8, q9, q10, q11, rfl⟩
    walk_at "aa"
    exact k1 H2 (sF0.trans sF)
  rintro i x σ H2 hi ⟨sF, q4, q5, q6, q7, q8, q9, q10, q11, rfl⟩ hx
  obtain ⟨a, pf, nf, bf, rfl, ha, hpf, tf⟩ := (tw x (List.mem_of_getElem? hx)).same sF
  refine a_gtup ha rfl ?_
  walk_at "aa"
  refine ⟨by show 2 ≤ sizeLine; decide, fun b1 m1 => ?_⟩
  have u1 := same_new (o := .tup [.ref p, .bl false]) m1
  walk_at "aa"
  refine ⟨by show 2 ≤ sizeLine; decide, fun b2 m2 => ?_⟩
  have u2 := same_new (o := .tup [.ref q, .bl true]) m2
  walk_at "aa"
  refine ⟨by show 2 ≤ sizeLine; decide, fun b3 m3 => ?_⟩
  have u3 := same_new (o := .tup [.ref b1, .ref b2]) m3
  have uF := u1.trans (u2.trans u3)
  have tw2 : ∀ x ∈ [V.ref b1, V.ref b2], TwoT (upd (upd (upd H2 b1 (.tup [.ref p, .bl false])) b2 (.tup [.ref q, .bl true])) b3 (.tup [.ref b1, .ref b2])) R x := by
    intro x hx
    rcases List.mem_cons.mp hx with rfl | hx
    · exact ⟨b1, p, nx, false, rfl, u3 _ _ (u2 _ _ upd_same), hp.same (sF0.trans (sF.trans uF)), t1⟩
    · rw [List.mem_singleton.mp hx]
      exact ⟨b2, q, nx', true, rfl, u3 _ _ upd_same, hq.same (sF0.trans (sF.trans uF)), t2⟩
  have g3 : upd (upd (upd H2 b1 (.tup [.ref p, .bl false])) b2 (.tup [.ref q, .bl true])) b3 (.tup [.ref b1, .ref b2]) b3 = some (.tup [.ref b1, .ref b2]) := upd_same
  generalize upd (upd (upd H2 b1 (.tup [.ref p, .bl false])) b2 (.tup [.ref q, .bl true])) b3 (.tup [.ref b1, .ref b2]) = H3 at *
  have hpf3 := hpf.same uF
  have sH3 := sF.trans uF
  refine ⟨b3, rfl, ⟨_, SqT.of g3⟩, ?_⟩
  refine for_go (F := H3) (it_tup g3) (fun i σ H' => Same H3 H' ∧ ∃ q6 q7 q8 q9 q10 q11, σ = [some (.ref r), some (.ref p), some (.ref q), some (.str d), some (.ref pf), some (.bl bf), q6, q7, q8, q9, q10, q11]) ⟨Same.refl H3, _, _, _, _, _, _, rfl⟩ (fun _ _ _ h => h.1) (fun _ _ _ _ s h => ⟨h.1.trans s, h.2⟩) ?_ ?_
  rotate_left
  · rintro σ H4 ⟨sF4, q6, q7, q8, q9, q10, q11, rfl⟩
    exact ⟨sH3.trans sF4, _, _, _, _, _, _, _, _, rfl⟩
  rintro j x σ H4 hj ⟨sF4, q6, q7, q8, q9, q10, q11, rfl⟩ hx
  obtain ⟨a', ps, ns, bs, rfl, ha', hps, ts⟩ := (tw2 x (List.mem_of_getElem? hx)).same sF4
  have sr4 := (sF0.trans (sH3.trans sF4)) _ _ hrr
  refine a_gtup ha' rfl ?_
  walk_at "aa"
  refine ⟨r, rfl, ⟨_, SqT.of sr4⟩, fun D nD => ?_⟩
  refine lc_go (it_tup sr4) (Same.refl H4) nD (fun i acc _ => ∃ ys : List Str, acc = ys.map V.str ∧ ∀ y ∈ ys, y ∈ R) ⟨[], rfl, fun _ h => nomatch h⟩ (fun _ _ _ _ _ r => r) ?_ ?_
  · rintro i acc H5 v hi sF5 hD lc ⟨ys, rfl, hys⟩ hv
    rw [List.getElem?_map] at hv
    obtain ⟨y, e1, rfl⟩ := Option.map_eq_some_iff.mp hv
    walk_at "aa"
    refine ⟨rfl, ?_⟩
    walk_at "aa"
    refine iteDN (fun c => ?_) (fun c => ?_)
    · walk_at "aa"
      exact lc_put (by simp at hi; omega) nD (fun _ _ _ _ _ r => r) sF5 hD lc ⟨ys ++ [y], by simp, fun z hz => (List.mem_append.mp hz).elim (hys z) fun h => by rw [List.mem_singleton.mp h]; exact List.mem_of_getElem? e1⟩
    · exact lc_skip sF5 hD lc ⟨ys, rfl, hys⟩
  rintro acc H5 sF5 hD lc ⟨ys, rfl, hys⟩
  refine ⟨D, rfl, ⟨_, SqL.of hD⟩, ?_⟩
  have hpf5 := hpf3.same (sF4.trans sF5)
  have hps5 := hps.same sF5
  have sH5 := sF4.trans sF5
  refine for_go (F := H5) (it_list hD) (fun i σ H' => Same H5 H' ∧ ∃ q8 q9 q10 q11, σ = [some (.ref r), some (.ref p), some (.ref q), some (.str d), some (.ref pf), some (.bl bf), some (.ref ps), some (.bl bs), q8, q9, q10, q11]) ⟨Same.refl H5, _, _, _, _, rfl⟩ (fun _ _ _ h => h.1) (fun _ _ _ _ s h => ⟨h.1.trans s, h.2⟩) ?_ ?_
  rotate_left
  · rintro σ H6 ⟨sF6, q8, q9, q10, q11, rfl⟩
    exact ⟨sH5.trans sF6, _, _, _, _, _, _, rfl⟩
  rintro i2 v σ H6 hi2 ⟨sF6, q8, q9, q10, q11, rfl⟩ hv
  rw [List.getElem?_map] at hv
  obtain ⟨y, e1, rfl⟩ := Option.map_eq_some_iff.mp hv
  have hy := hys y (List.mem_of_getElem? e1)
  walk_at "aa"
  refine ⟨by show 2 ≤ sizeLine; decide, fun b7 m7 => ?_⟩
  have u7 := same_new (o := .tup [.str y, .str d]) m7
  obtain ⟨g, dg, gg⟩ := (hpf5.same sF6).same u7
  obtain ⟨ty, ey, hty⟩ := gg y d ⟨hy, hd⟩
  refine ⟨pf, _, rfl, dt_ds dg upd_same ey, ?_⟩
  refine ⟨ty, rfl, ⟨_, SqT.of hty⟩, ?_⟩
  have sH7 := sF6.trans u7
  refine for_go (F := upd H6 b7 (.tup [.str y, .str d])) (it_tup hty) (fun i σ H' => Same (upd H6 b7 (.tup [.str y, .str d])) H' ∧ ∃ q9 q10 q11, σ = [some (.ref r), some (.ref p), some (.ref q), some (.str d), some (.ref pf), some (.bl bf), some (.ref ps), some (.bl bs), some (.str y), q9, q10, q11]) ⟨Same.refl _, _, _, _, rfl⟩ (fun _ _ _ h => h.1) (fun _ _ _ _ s h => ⟨h.1.trans s, h.2⟩) ?_ ?_
  rotate_left
  · rintro σ H8 ⟨sF8, q9, q10, q11, rfl⟩
    exact ⟨sH7.trans sF8, _, _, _, _, rfl⟩
  rintro i3 v σ H8 hi3 ⟨sF8, q9, q10, q11, rfl⟩ hv
  rw [List.getElem?_map] at hv
  obtain ⟨o, e2, rfl⟩ := Option.map_eq_some_iff.mp hv
  have ho : o ∈ R := tf.mem y d o (List.mem_of_getElem? e2)
  walk_at "aa"
  refine iteDN (fun c => ?_) (fun c => ?_)
  rotate_left
  · walk_at "aa"
    exact ⟨sF8, _, _, _, rfl⟩
  walk_at "aa"
  refine ⟨by show 2 ≤ sizeLine; decide, fun b9 m9 => ?_⟩
  have u9 := same_new (o := .tup [.str o, .str d]) m9
  obtain ⟨g2, dg2, gg2⟩ := (hps5.same (sH7.trans sF8)).same u9
  obtain ⟨to, eo, hto⟩ := gg2 o d ⟨ho, hd⟩
  refine ⟨ps, _, rfl, dt_ds dg2 upd_same eo, ?_⟩
  walk_at "aa"
  refine ⟨by show 0 ≤ sizeLine; decide, fun b10 m10 => ?_⟩
  have u10 := same_new (o := .tup []) m10
  refine a_eqT (neg := false) (xs := ns o d) (ys := []) (u10 _ _ hto) upd_same (fun z hz => (ok.names z (ts.mem o d z hz)).ok) (fun z hz => nomatch hz) ?_
  have u910 := u9.trans u10
  refine a_bl ?_
  refine iteD (fun c2 => ?_) (fun c2 => ?_)
  rotate_left
  · walk_at "aa"
    exact ⟨sF8.trans u910, _, _, _, rfl⟩
  walk_at "aa"
  refine ⟨by show 1 ≤ sizeLine; decide, fun b11 m11 => ?_⟩
  have u11 := same_new (o := .lst [.str y]) m11
  walk_at "aa"
  refine a_rep (upd_same) fun b12 H12 zs s12 h12 lz => ?_
  walk_at "aa"
  refine ⟨by show 1 ≤ sizeLine; decide, fun b13 m13 => ?_⟩
  have u13 := same_new (o := .lst [.str o]) m13
  walk_at "aa"
  refine a_rep (upd_same) fun b14 H14 ws s14 h14 lw => ?_
  refine a_cat (s14 _ _ (u13 _ _ h12)) h14 (by simp; omega) fun b15 H15 n15 s15 h15 => ?_
  rw [← List.map_append] at h15
  walk_at "aa"
  refine ⟨by show 2 ≤ sizeLine; decide, fun b16 m16 => ?_⟩
  have u16 := same_new (o := .tup [.str y, .str o]) m16
  have sAll := sF0.trans (sH3.trans (sH5.trans (sH7.trans (sF8.trans (u910.trans (u11.trans (s12.trans (u13.trans (s14.trans (s15.trans u16))))))))))
  walk_at "aa"
  refine ⟨r, rfl, ⟨_, SqT.of (sAll _ _ hrr)⟩, fun D2 nD2 => ?_⟩
  refine lc_go (it_tup (sAll _ _ hrr)) (Same.refl _) nD2 (fun i acc _ => True) trivial (fun _ _ _ _ _ r => r) ?_ ?_
  · rintro i acc H17 v hi sF17 hD2 lc2 _ hv
    rw [List.getElem?_map] at hv
    obtain ⟨z, ez, rfl⟩ := Option.map_eq_some_iff.mp hv
    walk_at "aa"
    refine ⟨rfl, ?_⟩
    walk_at "aa"
    refine a_inL (sF17 _ _ (u16 _ _ h15)) ?_
    refine a_bl ?_
    refine iteD (fun c => ?_) (fun c => ?_)
    · walk_at "aa"
      exact lc_put (by simp at hi; omega) nD2 (fun _ _ _ _ _ r => r) sF17 hD2 lc2 trivial
    · exact lc_skip sF17 hD2 lc2 trivial
  · intro acc H17 sF17 hD2 lc2 _
    walk_at "aa"
    refine a_tupL hD2 fun tl H18 n18 s18 h18 => ?_
    walk_at "aa"
    refine ⟨by show 2 ≤ sizeLine; decide, fun t19 n19 => ?_⟩
    have s19 := same_new (o := .tup [.ref b16, .ref tl]) n19
    exact k2 _ t19 _ _ (sAll.trans (sF17.trans (s18.trans s19))) upd_same
end QB
set_option Elab.async false
set_option linter.all false
set_option maxRecDepth 100000
set_option maxHeartbeats 4000000

namespace QB
open PySem PySem.Spec L2
open PyProof.Rows (envOfC)
open PySem.PyData (strOk)
open RZ (Ty4 rIsTy call_isTy pi_zipA iZipA ItzT for_zipT for_zipL)
open StX (tStar pa_star)
local macro_rules | `(tactic| walk_at "hp") => `(tactic| first | assumption | exact upd_same | (refine sg (by assumption) ?_; walk_at "hp"))
local macro_rules | `(tactic| walk_at "a") => `(tactic| first
  | with_reducible refine a_seq ?_ | with_reducible refine a_asg ?_ | with_reducible refine a_drop ?_ | with_reducible refine a_ret ?_ | with_reducible refine a_retN ?_
  | with_reducible refine a_ifS ?_ | with_reducible refine a_next ?_ | with_reducible refine a_gname ?_ | with_reducible refine a_nx ?_ | with_reducible refine a_rt ?_ | with_reducible refine a_bk ?_ | with_reducible refine a_ct ?_
  | ((with_reducible show tVar _ _ _ _); refine a_var rfl ?_) | with_reducible refine a_c ?_ | with_reducible refine a_op ?_ | with_reducible refine a_un ?_ | with_reducible refine a_cb ?_ | with_reducible refine a_nil ?_ | with_reducible refine a_cons ?_
  | with_reducible refine a_call ?_ | with_reducible refine a_meth ?_ | with_reducible refine a_make ?_ | with_reducible refine a_test ?_ | with_reducible refine a_tTest ?_ | with_reducible refine a_tand ?_ | with_reducible refine a_tor ?_ | with_reducible refine a_tnot ?_
  | with_reducible refine a_and ?_ | with_reducible refine a_or ?_ | with_reducible refine a_not ?_ | with_reducible refine a_if ?_ | with_reducible refine a_ri0 ?_ | with_reducible refine a_tup ?_ | with_reducible refine a_lst ?_
  | with_reducible refine a_bl ?_ | with_reducible refine a_sfld ?_ | with_reducible refine a_exI ?_ | with_reducible refine a_exZ ?_ | with_reducible refine a_chain ?_ | with_reducible refine a_lc ?_ | with_reducible refine a_yes ?_ | with_reducible refine a_gcons ?_ | with_reducible refine a_gnil ?_ | with_reducible refine w_list ?_ | with_reducible refine w_tup ?_ | with_reducible refine w_str ?_ | with_reducible refine w_rng1 ?_ | with_reducible refine w_zip ?_ | with_reducible refine w_zipA ?_
  | with_reducible refine a_tFld ?_ | with_reducible refine a_dget ?_ | with_reducible refine a_din ?_ | with_reducible refine a_dnin ?_ | with_reducible refine a_sl ?_ | with_reducible refine a_slNone ?_ | with_reducible refine a_slSome ?_
  | with_reducible refine a_isN ?_ | with_reducible refine a_notN ?_ | with_reducible refine a_eqI ?_ | with_reducible refine a_neI ?_ | with_reducible refine a_eqZ ?_ | with_reducible refine a_neZ ?_ | with_reducible refine a_ltZ ?_ | with_reducible refine a_int ?_ | with_reducible refine a_intB ?_ | with_reducible refine a_abs ?_ | with_reducible refine a_max2 ?_ | with_reducible refine a_min2 ?_ | with_reducible refine a_bm ?_
  | ((with_reducible show rLenQ _ _ _ _); first | refine a_lenT (by walk_at "hp") ?_ | refine a_lenL (by walk_at "hp") ?_)
  | with_reducible refine a_prsC ?_ | with_reducible refine a_prsN ?_ | with_reducible refine a_for ?_ | with_reducible refine a_dput ?_ | with_reducible refine w_keys ?_ | with_reducible refine w_listT ?_
  | with_reducible refine QB.a_rU ?_ | with_reducible refine QB.a_cKw ?_ | with_reducible refine QB.a_star ?_ | with_reducible refine QB.a_dget2 ?_
  | with_reducible refine QB.a_par ?_ | with_reducible refine QB.a_par3 ?_
  | with_reducible refine QB.a_srt ?_
  | with_reducible refine QB.a_dc ?_
  | with_reducible refine iteT ?_ | with_reducible refine iteNT ?_ | with_reducible refine iteNF ?_ | with_reducible refine iteF ?_ | with_reducible refine a_prop ?_)
local macro_rules | `(tactic| walk_at "aa") => `(tactic| (walk_at "a"; repeat walk_at "a"))

variable {P : Program} {w : World} {K : PySem.W.Frag} {mg : Str → Option Value} {base : Heap} {CN CC : Addr}
def spLoss : Sp := fun vs H Q _ => ∃ (r p q : Addr) (R : List Str) (nx nx' : Str → Str → List Str), vs = [.ref r, .ref p, .ref q] ∧ H r = some (.tup (R.map V.str)) ∧ TabAt H p R nx ∧ TabAt H q R nx' ∧ TabOk R nx ∧ TabOk R nx' ∧ RoutersOk R ∧
  (∀ H', Same H H' → Q .non H') ∧ ∀ (H' : Hp) (t : Addr) (u v x : V), Same H H' → H' t = some (.tup [u, v, x]) → Q (.ref t) H'
abbrev N_loss : List Str := ["routers", "tables", "others", "d", "found"]
theorem sc_loss : FnScope N_loss ["routers", "tables", "others"] (defScope QH.s_loss) := ⟨rfl, rfl, rfl, by decide +kernel, rfl, by decide +kernel, by decide +kernel⟩
theorem D_loss (T : Tx P w K mg base CN CC) (F : FunAt K mg "loss" QH.s_loss) (D_loss_for : DefOk P w K mg base "loss_for" ["routers", "tables", "others", "d"] spLossFor 1) : DefOk P w K mg base "loss" ["routers", "tables", "others"] spLoss 2 := by
  refine mk_def F sc_loss (fun _ _ _ _ _ _ us hl => match us, hl with | [_, _, _], _ => rfl) (fun vs H Q E h => by obtain ⟨r, p, q, R, nx, nx', rfl, _⟩ := h; rfl) (fun f cdv A outer s H vs Q E hr h => ?_)
  have nd := sc_loss.nd
  obtain ⟨r, p, q, R, nx, nx', rfl, hrr, hp, hq, t1, t2, ok, k1, k2⟩ := h
  refine ⟨_, (pss_cons (ps_for PassesOwn.never rfl (ki_ptup (K := K) (pv 0)) (pg_name (i := 3) nd rfl (by first | exact Or.inl rfl | exact Or.inr rfl)) (pss_cons (ps_set (i := 4) nd rfl (by first | exact Or.inl rfl | exact Or.inr rfl) (pe_callD D_loss_for (hr.mono (by decide)) (by rfl) (pa_cons (pv 0) (pa_cons (pv 1) (pa_cons (pv 2) (pa_cons (pv 3) pa_nil))))))
    (pss_one (ps_if (pt_cmpR op_notN1 (pv 4) pe_non (nomark _)) (pss_one (ps_ret (pe_tup (pa_cons (pv 3) (ki_star (K := K) (pv 4)))))) pss_nil))))
    (pss_one (ps_ret pe_non))), ?_⟩
  walk_at "aa"
  refine ⟨r, rfl, ⟨_, SqT.of hrr⟩, ?_⟩
  refine for_go (F := H) (it_tup hrr) (fun i σ H' => Same H H' ∧ ∃ q3 q4, σ = [some (.ref r), some (.ref p), some (.ref q), q3, q4]) ⟨Same.refl H, _, _, rfl⟩ (fun _ _ _ h => h.1) (fun _ _ _ _ s h => ⟨h.1.trans s, h.2⟩) ?_ ?_
  · rintro i x σ H2 hi ⟨sF, q3, q4, rfl⟩ hx
    rw [List.getElem?_map] at hx
    obtain ⟨d, e1, rfl⟩ := Option.map_eq_some_iff.mp hx
    have hd := List.mem_of_getElem? e1
    walk_at "aa"
    refine ⟨r, p, q, R, nx, nx', d, rfl, sF _ _ hrr, hp.same sF, hq.same sF, t1, t2, ok, hd, fun H3 s3 => ?_, fun H3 t u v s3 ht => ?_⟩
    · walk_at "aa"
      refine iteYN rfl ?_
      walk_at "aa"
      exact ⟨sF.trans s3, _, _, rfl⟩
    · walk_at "aa"
      refine iteZN (fun h => nomatch h) ?_
      walk_at "aa"
      refine ⟨t, _, rfl, .inl (SqT.of ht), ?_⟩
      walk_at "aa"
      refine ⟨by show 3 ≤ sizeLine; decide, fun t5 n5 => ?_⟩
      have s5 := same_new (o := .tup [.str d, u, v]) n5
      exact k2 _ t5 _ _ _ (sF.trans (s3.trans s5)) upd_same
  · rintro σ H2 ⟨sF, q3, q4, rfl⟩
    walk_at "aa"
    exact k1 H2 sF
def spRanksOf : Sp := fun vs H Q _ => ∃ (r p q : Addr) (R : List Str) (nx nx' : Str → Str → List Str), vs = [.ref r, .ref p, .ref q] ∧ H r = some (.tup (R.map V.str)) ∧ TabAt H p R nx ∧ TabAt H q R nx' ∧ TabOk R nx ∧ TabOk R nx' ∧ RoutersOk R ∧ AllQL R nx nx' ∧
  ∀ (H' : Hp) (t : Addr), Same H H' → Q (.ref t) H'
abbrev N_ranks_of : List Str := ["routers", "tables", "others", "found", "d", "ranks", "router"]
theorem sc_ranks_of : FnScope N_ranks_of ["routers", "tables", "others"] (defScope QH.s_ranks_of) := ⟨rfl, rfl, rfl, by decide +kernel, rfl, by decide +kernel, by decide +kernel⟩
theorem D_ranks_of (T : Tx P w K mg base CN CC) (F : FunAt K mg "ranks_of" QH.s_ranks_of) (D_links_towards : DefOk P w K mg base "links_towards" ["routers", "tables", "others", "d"] spTowards 1) (D_ranked : DefOk P w K mg base "ranked" ["links"] spRanked 1) :
    DefOk P w K mg base "ranks_of" ["routers", "tables", "others"] spRanksOf 2 := by
  refine mk_def F sc_ranks_of (fun _ _ _ _ _ _ us hl => match us, hl with | [_, _, _], _ => rfl) (fun vs H Q E h => by obtain ⟨r, p, q, R, nx, nx', rfl, _⟩ := h; rfl) (fun f cdv A outer s H vs Q E hr h => ?_)
  have nd := sc_ranks_of.nd
  obtain ⟨r, p, q, R, nx, nx', rfl, hrr, hp, hq, t1, t2, ok, aq, k⟩ := h
  have h8 := ok.most
  refine ⟨_, (pss_cons (ps_set (i := 3) nd rfl (by first | exact Or.inl rfl | exact Or.inr rfl) (pe_lst pa_nil))
    (pss_cons (ps_for PassesOwn.never rfl (ki_ptup (K := K) (pv 0)) (pg_name (i := 4) nd rfl (by first | exact Or.inl rfl | exact Or.inr rfl)) (pss_cons (ps_set (i := 5) nd rfl (by first | exact Or.inl rfl | exact Or.inr rfl) (pe_ix (ki_ixT (K := K)) (pe_callD D_ranked (hr.mono (by decide)) (by rfl) (pa_cons (pe_callD D_links_towards (hr.mono (by decide)) (by rfl) (pa_cons (pv 0) (pa_cons (pv 1) (pa_cons (pv 2) (pa_cons (pv 4) pa_nil))))) pa_nil)) pe_int (fun _ _ => rfl)))
    (pss_one (ps_expr (pe_bm PySem.F.plainAttrs_list PySem.F.slot_list_append PySem.F.type_list_append mt_append (pv 3) (pa_cons (pe_callTy (ki_tuple (K := K)) (by rfl) T.f_tuple (by decide +kernel) (pa_cons (pe_lc (own := [("router", 6)]) (g := (gName 6)) (tt := tYes) rfl nd (ki_ptup (K := K) (pv 0)) (blkOk_by (by with_unfolding_all rfl)) (fun _ _ _ _ _ => (pg_name (i := 6) nd rfl (by first | exact Or.inl rfl | exact Or.inr rfl))) (fun _ _ _ _ _ => pts_nil) (fun _ _ _ _ _ => (pe_dget (hu_of hr) (pv 5) (pv 6) (fun _ _ => rfl)))) pa_nil)) pa_nil))))))
    (pss_one (ps_ret (pe_callTy (ki_tuple (K := K)) (by rfl) T.f_tuple (by decide +kernel) (pa_cons (pv 3) pa_nil)))))), ?_⟩
  walk_at "aa"
  refine ⟨by show 0 ≤ sizeLine; decide, fun pw nw => ?_⟩
  have s1 := same_new (o := .lst []) nw
  walk_at "aa"
  refine ⟨r, rfl, ⟨_, SqT.of (s1 _ _ hrr)⟩, ?_⟩
  refine for_go (F := H) (it_tup hrr) (fun i σ H' => (Same H H' ∧ ∃ xs, H' pw = some (.lst xs) ∧ xs.length ≤ i) ∧ ∃ q4 q5 q6, σ = [some (.ref r), some (.ref p), some (.ref q), some (.ref pw), q4, q5, q6]) ⟨⟨s1, [], upd_same, Nat.le_refl _⟩, _, _, _, rfl⟩ (fun _ _ _ h => h.1.1) (fun _ _ _ _ s h => ⟨⟨h.1.1.trans s, h.1.2.imp fun xs q => ⟨s _ _ q.1, q.2⟩⟩, h.2⟩) ?_ ?_
  · rintro i x σ H2 hi ⟨⟨sF, xs, hw, lx⟩, q4, q5, q6, rfl⟩ hx
    rw [List.getElem?_map] at hx
    obtain ⟨d, e1, rfl⟩ := Option.map_eq_some_iff.mp hx
    have hd := List.mem_of_getElem? e1
    walk_at "aa"
    refine ⟨r, p, q, R, nx, nx', d, rfl, sF _ _ hrr, hp.same sF, hq.same sF, t1.len, t2.len, h8, hd, fun l H3 s3 hl => ?_⟩
    walk_at "aa"
    refine ⟨l, R, both R nx nx' d, rfl, hl, ok, fun x _ n hn => (both_sub hn).1, fun x => both_len h8, fun t pr pl H4 f left s4 ht hpr hpl rk => ?_⟩
    walk_at "aa"
    refine a_ixT ht (show atI [V.ref pr, V.ref pl] 0 = some (V.ref pr) from rfl) ?_
    have s34 := s3.trans s4
    have hall := rk.all (rk.iff.mpr (aq d hd))
    walk_at "aa"
    refine ⟨ty_lst (s34 _ _ hw), ?_⟩
    walk_at "aa"
    have hr4 := (sF.trans s34) _ _ hrr
    refine ⟨r, rfl, ⟨_, SqT.of hr4⟩, fun D nD => ?_⟩
    refine lc_go (it_tup hr4) (Same.refl H4) nD (fun i acc _ => True) trivial (fun _ _ _ _ _ r => r) ?_ ?_
    · rintro j acc H5 v hj sF5 hD lc _ hv
      rw [List.getElem?_map] at hv
      obtain ⟨x, e2, rfl⟩ := Option.map_eq_some_iff.mp hv
      obtain ⟨c, hc⟩ := hall x (List.mem_of_getElem? e2)
      walk_at "aa"
      refine ⟨rfl, ?_⟩
      walk_at "aa"
      refine ⟨pr, _, rfl, dis_ds (hpr.same sF5) hc, ?_⟩
      exact lc_put (by simp at hj; omega) nD (fun _ _ _ _ _ r => r) sF5 hD lc trivial
    · intro acc H5 sF5 hD lc _
      walk_at "aa"
      refine a_tupL hD fun t6 H6 n6 s6 h6 => ?_
      walk_at "aa"
      have sT := s34.trans (sF5.trans s6)
      refine a_app (sT _ _ hw) (by simp at hi; omega) ?_
      exact ⟨⟨same_mut (sF.trans sT) nw, _, upd_same, by simp; omega⟩, _, _, _, rfl⟩
  · rintro σ H2 ⟨⟨sF, xs, hw, lx⟩, q4, q5, q6, rfl⟩
    walk_at "aa"
    exact a_tupL hw fun t H3 n3 s3 h3 => k H3 t (sF.trans s3)
theorem nxl_ok {R : List Str} (ok : RoutersOk R) (E : QT.Arcs Str) : TabOk R fun x d => nxl E R d x :=
  ⟨fun x d => Nat.le_trans (List.length_filter_le _ _) ok.most, fun x d n h => (mem_nxl.mp h).1⟩
/-- no ring, by the nets' arcs -/
theorem quietL_iff {R : List Str} {ls ms : List Lnk} {d : Str} (hl : LinksOk R ls) (hm : LinksOk R ms) : QuietL R (both R (fun x d => nxl (arcs ls) R d x) (fun x d => nxl (arcs ms) R d x) d) ↔ QT.Quiet (arcs ls) (arcs ms) d := by
  have key : ∀ x n, n ∈ both R (fun x d => nxl (arcs ls) R d x) (fun x d => nxl (arcs ms) R d x) d x ↔ QT.Nx (arcs ls) d x n ∨ QT.Nx (arcs ms) d x n := by
    intro x n
    have nod : ∀ {ks : List Lnk}, LinksOk R ks → QT.Nx (arcs ks) d x n → x ≠ d ∧ n ∈ R := by
      rintro ks hk ⟨l, b, h1, h2, h3⟩
      refine ⟨?_, (arcs_in hk h1).2⟩
      rintro rfl
      rw [QT.dist_self (arcs_pos hk)] at h3
      have := arcs_pos hk _ _ _ h1
      have := QT.dist_nonneg (arcs_pos hk) h2
      have := Option.some.inj h3
      omega
    unfold both
    by_cases c : x = d
    · rw [if_pos c]
      refine ⟨fun h => (nomatch h), fun h => ?_⟩
      rcases h with h | h
      · exact absurd c (nod hl h).1
      · exact absurd c (nod hm h).1
    · rw [if_neg c, List.mem_filter]
      simp only [decide_eq_true_eq, List.mem_append, mem_nxl]
      constructor
      · rintro ⟨_, h | h⟩
        · exact .inl h.2
        · exact .inr h.2
      · rintro (h | h)
        · exact ⟨(nod hl h).2, .inl ⟨(nod hl h).2, h⟩⟩
        · exact ⟨(nod hm h).2, .inr ⟨(nod hm h).2, h⟩⟩
  unfold QuietL QT.Quiet
  constructor
  · rintro ⟨rank, h⟩
    refine ⟨rank, fun x n hx => h x ?_ n ((key x n).mpr hx)⟩
    rcases hx with ⟨l, b, h1, _⟩ | ⟨l, b, h1, _⟩
    · exact (arcs_in hl h1).1
    · exact (arcs_in hm h1).1
  · rintro ⟨rank, h⟩
    exact ⟨rank, fun x _ n hn => h x n ((key x n).mp hn)⟩
/-- no ring between two nets -/
def AllQN (R : List Str) (ls ms : List Lnk) : Prop := ∀ d ∈ R, QT.Quiet (arcs ls) (arcs ms) d
theorem allQN_iff {R : List Str} {ls ms : List Lnk} (hl : LinksOk R ls) (hm : LinksOk R ms) : AllQL R (fun x d => nxl (arcs ls) R d x) (fun x d => nxl (arcs ms) R d x) ↔ AllQN R ls ms :=
  ⟨fun h d hd => (quietL_iff hl hm).mp (h d hd), fun h d hd => (quietL_iff hl hm).mpr (h d hd)⟩
def spJudged (CN : Addr) : Sp := fun vs H Q _ => ∃ (n m : Addr) (R : List Str) (ls ms : List Lnk), vs = [.ref n, .ref m] ∧ NetAt CN H n R ls ∧ NetAt CN H m R ms ∧ RoutersOk R ∧ LinksOk R ls ∧ LinksOk R ms ∧
  ∀ (H' : Hp) (t : Addr) (x : Str) (xs : List V), Same H H' → H' t = some (.tup (.str x :: xs)) → (x = "turns" ↔ ¬ AllQN R ls ms) → Q (.ref t) H'
abbrev N_judged : List Str := ["old", "new", "ring", "pair", "routers", "tables", "others"]
theorem sc_judged : FnScope N_judged ["old", "new"] (defScope QH.s_judged) := ⟨rfl, rfl, rfl, by decide +kernel, rfl, by decide +kernel, by decide +kernel⟩
theorem D_judged (T : Tx P w K mg base CN CC) (F : FunAt K mg "judged" QH.s_judged) (D_check_like : DefOk P w K mg base "check_like" ["old", "new"] (spCheckLike CN) 3) (D_next_tables : DefOk P w K mg base "next_tables" ["net"] (spNextTables CN) 4)
    (D_turns : DefOk P w K mg base "turns" ["routers", "tables", "others"] spTurns 3) (D_loss : DefOk P w K mg base "loss" ["routers", "tables", "others"] spLoss 2) (D_ranks_of : DefOk P w K mg base "ranks_of" ["routers", "tables", "others"] spRanksOf 2) :
    DefOk P w K mg base "judged" ["old", "new"] (spJudged CN) 5 := by
  refine mk_def F sc_judged (fun _ _ _ _ _ _ us hl => match us, hl with | [_, _], _ => rfl) (fun vs H Q E h => by obtain ⟨n, m, R, ls, ms, rfl, _⟩ := h; rfl) (fun f cdv A outer s H vs Q E hr h => ?_)
  have nd := sc_judged.nd
  obtain ⟨n, m, R, ls, ms, rfl, hn, hm, ok, o1, o2, k⟩ := h
  refine ⟨_, (pss_cons (ps_expr (pe_callD D_check_like (hr.mono (by decide)) (by rfl) (pa_cons (pv 0) (pa_cons (pv 1) pa_nil))))
    (pss_cons (ps_par3 (i := 4) (j := 5) (l := 6) (by rfl) nd rfl rfl rfl (by decide) (by decide) (by decide) rfl rfl rfl (pa_cons (pe_routers T.net (hr.mono (by decide)) (pv 0) rfl) (pa_cons (pe_callD D_next_tables (hr.mono (by decide)) (by rfl) (pa_cons (pv 0) pa_nil)) (pa_cons (pe_callD D_next_tables (hr.mono (by decide)) (by rfl) (pa_cons (pv 1) pa_nil)) pa_nil))) (by rfl))
    (pss_cons (ps_set (i := 2) nd rfl (by first | exact Or.inl rfl | exact Or.inr rfl) (pe_callD D_turns (hr.mono (by decide)) (by rfl) (pa_cons (pv 4) (pa_cons (pv 5) (pa_cons (pv 6) pa_nil)))))
    (pss_cons (ps_if (pt_cmpR op_notN1 (pv 2) pe_non (nomark _)) (pss_one (ps_ret (pe_tup (pa_cons (k_str T.c_TURNS (by rfl)) (ki_star (K := K) (pv 2)))))) pss_nil)
    (pss_cons (ps_set (i := 3) nd rfl (by first | exact Or.inl rfl | exact Or.inr rfl) (pe_callD D_loss (hr.mono (by decide)) (by rfl) (pa_cons (pv 4) (pa_cons (pv 5) (pa_cons (pv 6) pa_nil)))))
    (pss_one (ps_ret (pe_ifExp (pt_cmpR op_isN1 (pv 3) pe_non (nomark _)) (pe_tup (pa_cons (k_str T.c_QUIET (by rfl)) (pa_cons (pe_callD D_ranks_of (hr.mono (by decide)) (by rfl) (pa_cons (pv 4) (pa_cons (pv 5) (pa_cons (pv 6) pa_nil)))) pa_nil))) (pe_tup (pa_cons (k_str T.c_LOST (by rfl)) (ki_star (K := K) (pv 3)))))))))))), ?_⟩
  walk_at "aa"
  refine ⟨n, m, R, ls, ms, rfl, hn, hm, ok, fun H1 s1 => ?_⟩
  walk_at "aa"
  refine n_routers (hn.same s1) fun r hr => ?_
  walk_at "aa"
  refine ⟨n, R, ls, rfl, hn.same s1, ok, o1, fun p H2 s2 hp => ?_⟩
  walk_at "aa"
  have s12 := s1.trans s2
  refine ⟨m, R, ms, rfl, hm.same s12, ok, o2, fun q H3 s3 hq => ?_⟩
  walk_at "aa"
  refine ⟨_, _, _, rfl, ?_⟩
  have s13 := s12.trans s3
  have hr3 := s3 _ _ (s2 _ _ hr)
  have hp3 := hp.same s3
  walk_at "aa"
  refine ⟨r, p, q, R, _, _, rfl, hr3, hp3, hq, nxl_ok ok _, nxl_ok ok _, ok, fun H4 s4 aq => ?_, fun H4 t tr tl d ring s4 naq hd ht htr rok => ?_⟩
  · have aqn := (allQN_iff o1 o2).mp aq
    have hr4 := s4 _ _ hr3
    have hp4 := hp3.same s4
    have hq4 := hq.same s4
    have s14 := s13.trans s4
    walk_at "aa"
    refine iteYN rfl ?_
    walk_at "aa"
    refine ⟨r, p, q, R, _, _, rfl, hr4, hp4, hq4, nxl_ok ok _, nxl_ok ok _, ok, fun H5 s5 => ?_, fun H5 t u v x s5 ht => ?_⟩
    · walk_at "aa"
      refine iteY rfl ?_
      walk_at "aa"
      refine ⟨r, p, q, R, _, _, rfl, s5 _ _ hr4, hp4.same s5, hq4.same s5, nxl_ok ok _, nxl_ok ok _, ok, aq, fun H6 t s6 => ?_⟩
      walk_at "aa"
      refine ⟨by show 2 ≤ sizeLine; decide, fun t7 n7 => ?_⟩
      have s7 := same_new (o := .tup [.str "quiet", .ref t]) n7
      exact k _ t7 _ _ (s14.trans (s5.trans (s6.trans s7))) upd_same ⟨fun e => absurd e (by decide +kernel), fun e => absurd aqn e⟩
    · walk_at "aa"
      refine iteZ (fun h => nomatch h) ?_
      walk_at "aa"
      refine ⟨t, _, rfl, .inl (SqT.of ht), ?_⟩
      walk_at "aa"
      refine ⟨by show 4 ≤ sizeLine; decide, fun t7 n7 => ?_⟩
      have s7 := same_new (o := .tup [.str "lost", u, v, x]) n7
      exact k _ t7 _ _ (s14.trans (s5.trans s7)) upd_same ⟨fun e => absurd e (by decide +kernel), fun e => absurd aqn e⟩
  · walk_at "aa"
    refine iteZN (fun h => nomatch h) ?_
    walk_at "aa"
    refine ⟨t, _, rfl, .inl (SqT.of ht), ?_⟩
    walk_at "aa"
    refine ⟨by show 4 ≤ sizeLine; decide, fun t7 n7 => ?_⟩
    have s7 := same_new (o := .tup [.str "turns", .str d, .ref tr, .ref tl]) n7
    exact k _ t7 _ _ (s13.trans (s4.trans s7)) upd_same ⟨fun _ h => naq ((allQN_iff o1 o2).mpr h), fun _ => rfl⟩
end QB
set_option Elab.async false
set_option linter.all false
set_option maxRecDepth 100000
set_option maxHeartbeats 4000000

namespace QB
open PySem PySem.Spec L2
open PyProof.Rows (envOfC)
open PySem.PyData (strOk)
open RZ (Ty4 rIsTy call_isTy pi_zipA iZipA ItzT for_zipT for_zipL)
open StX (tStar pa_star)
open QS (SrtR tSrt rSrtI rSrtS rSrtT)
local macro_rules | `(tactic| walk_at "hp") => `(tactic| first | assumption | exact upd_same | (refine sg (by assumption) ?_; walk_at "hp"))
local macro_rules | `(tactic| walk_at "a") => `(tactic| first
  | with_reducible refine a_seq ?_ | with_reducible refine a_asg ?_ | with_reducible refine a_drop ?_ | with_reducible refine a_ret ?_ | with_reducible refine a_retN ?_
  | with_reducible refine a_ifS ?_ | with_reducible refine a_next ?_ | with_reducible refine a_gname ?_ | with_reducible refine a_nx ?_ | with_reducible refine a_rt ?_ | with_reducible refine a_bk ?_ | with_reducible refine a_ct ?_
  | ((with_reducible show tVar _ _ _ _); refine a_var rfl ?_) | with_reducible refine a_c ?_ | with_reducible refine a_op ?_ | with_reducible refine a_un ?_ | with_reducible refine a_cb ?_ | with_reducible refine a_nil ?_ | with_reducible refine a_cons ?_
  | with_reducible refine a_call ?_ | with_reducible refine a_meth ?_ | with_reducible refine a_make ?_ | with_reducible refine a_test ?_ | with_reducible refine a_tTest ?_ | with_reducible refine a_tand ?_ | with_reducible refine a_tor ?_ | with_reducible refine a_tnot ?_
  | with_reducible refine a_and ?_ | with_reducible refine a_or ?_ | with_reducible refine a_not ?_ | with_reducible refine a_if ?_ | with_reducible refine a_ri0 ?_ | with_reducible refine a_tup ?_ | with_reducible refine a_lst ?_
  | with_reducible refine a_bl ?_ | with_reducible refine a_sfld ?_ | with_reducible refine a_exI ?_ | with_reducible refine a_exZ ?_ | with_reducible refine a_chain ?_ | with_reducible refine a_lc ?_ | with_reducible refine a_yes ?_ | with_reducible refine a_gcons ?_ | with_reducible refine a_gnil ?_ | with_reducible refine w_list ?_ | with_reducible refine w_tup ?_ | with_reducible refine w_str ?_ | with_reducible refine w_rng1 ?_ | with_reducible refine w_zip ?_ | with_reducible refine w_zipA ?_
  | with_reducible refine a_tFld ?_ | with_reducible refine a_dget ?_ | with_reducible refine a_din ?_ | with_reducible refine a_dnin ?_ | with_reducible refine a_sl ?_ | with_reducible refine a_slNone ?_ | with_reducible refine a_slSome ?_
  | with_reducible refine a_isN ?_ | with_reducible refine a_notN ?_ | with_reducible refine a_eqI ?_ | with_reducible refine a_neI ?_ | with_reducible refine a_eqZ ?_ | with_reducible refine a_neZ ?_ | with_reducible refine a_ltZ ?_ | with_reducible refine a_int ?_ | with_reducible refine a_intB ?_ | with_reducible refine a_abs ?_ | with_reducible refine a_max2 ?_ | with_reducible refine a_min2 ?_ | with_reducible refine a_bm ?_
  | ((with_reducible show rLenQ _ _ _ _); first | refine a_lenT (by walk_at "hp") ?_ | refine a_lenL (by walk_at "hp") ?_)
  | with_reducible refine a_prsC ?_ | with_reducible refine a_prsN ?_ | with_reducible refine a_for ?_ | with_reducible refine a_dput ?_ | with_reducible refine w_keys ?_ | with_reducible refine w_listT ?_
  | with_reducible refine QB.a_rU ?_ | with_reducible refine QB.a_cKw ?_ | with_reducible refine QB.a_star ?_ | with_reducible refine QB.a_dget2 ?_
  | with_reducible refine QB.a_par ?_ | with_reducible refine QB.a_par3 ?_
  | with_reducible refine QB.a_srt ?_
  | with_reducible refine QB.a_dc ?_
  | with_reducible refine iteT ?_ | with_reducible refine iteNT ?_ | with_reducible refine iteNF ?_ | with_reducible refine iteF ?_ | with_reducible refine a_prop ?_)
local macro_rules | `(tactic| walk_at "aa") => `(tactic| (walk_at "a"; repeat walk_at "a"))

variable {P : Program} {w : World} {K : PySem.W.Frag} {mg : Str → Option Value} {base : Heap} {CN CC : Addr}
/-- an int, or None -/
abbrev oV : Option Int → V
  | some i => .int i
  | none => .non
def spWithLink (CN : Addr) : Sp := fun vs H Q _ => ∃ (n : Addr) (R : List Str) (ls : List Lnk) (l : Lnk), vs = [.ref n, .str l.a, .str l.b, .int l.th, .int l.bk] ∧ NetAt CN H n R ls ∧ RoutersOk R ∧ LinksOk R ls ∧ LinkOk R l ∧ (less ls l.a l.b).length < 16 ∧
  ∀ (m : Addr) (H' : Hp) (ms : List Lnk), Same H H' → NetAt CN H' m R ms → LinksOk R ms → WithL ls ms l → Q (.ref m) H'
abbrev N_Net_with_link : List Str := ["self", "a", "b", "there", "back", "length", "kept", "link"]
theorem sc_Net_with_link : FnScope N_Net_with_link ["self", "a", "b", "there", "back"] (defScope QH.s_Net_with_link) := ⟨rfl, rfl, rfl, by decide +kernel, rfl, by decide +kernel, by decide +kernel⟩
theorem b_Net_with_link (T : Tx P w K mg base CN CC) (D_check_routers : DefOk P w K mg base "check_routers" ["net", "values"] (spCheckRouters CN) 3) (D_is_from : DefOk P w K mg base "is_from" ["value", "least"] spIsFrom 2)
    (C_Net : MakeOk P w K mg base "Net" CN ["self", "routers", "links"] (spNetInit CN) 5) {f : Addr} {fd : FuncData} (F : Fun K "with_link" "Net.with_link" QH.s_Net_with_link f fd) : FnOk P w K mg base CX0 7 f fd ["self", "a", "b", "there", "back"] (spWithLink CN) := by
  refine F.ok sc_Net_with_link (fun vs H Q E h => by obtain ⟨n, R, ls, l, rfl, _⟩ := h; rfl) (fun cdv A outer s H vs Q E hr h => ?_)
  have nd := sc_Net_with_link.nd
  obtain ⟨n, R, ls, l, rfl, hn, ok1, ok2, ol, few, k⟩ := h
  have h16 := ok2.most
  refine ⟨_, (pss_cons (ps_expr (pe_callD D_check_routers (hr.mono (by decide)) (by rfl) (pa_cons (pv 0) (pa_cons (pe_tup (pa_cons (pv 1) (pa_cons (pv 2) pa_nil))) pa_nil))))
    (pss_cons (ps_if (pt_not (pt_cmpR o_ltZ (pv 1) (pv 2) (nomark _))) (pss_one ps_never) pss_nil)
    (pss_cons (ps_for PassesOwn.never rfl (ki_ptup (K := K) (pe_tup (pa_cons (pv 3) (pa_cons (pv 4) pa_nil)))) (pg_name (i := 5) nd rfl (by first | exact Or.inl rfl | exact Or.inr rfl)) (pss_one (ps_if (pt_not (pt_val (pe_callD D_is_from (hr.mono (by decide)) (by rfl) (pa_cons (pv 5) (pa_cons pe_int pa_nil))))) (pss_one ps_never) pss_nil)))
    (pss_cons (ps_setLc (i := 6) (own := [("link", 7)]) (g := (gName 7)) rfl nd rfl rfl (sw_true rfl rfl rfl (by decide +kernel)) (ki_ptup (K := K) (ki_fld (K := K) (pv 0) rfl)) (blkOk_by (by with_unfolding_all rfl)) (fun _ _ _ _ _ => (pg_name (i := 7) nd rfl (by first | exact Or.inl rfl | exact Or.inr rfl))) (fun _ _ _ _ _ => (pts_one (pt_cmpR (ki_neD (K := K) hr.units) (pe_slice (ki_slA (K := K)) (pv 7) po_none (po_some pe_int)) (pe_tup (pa_cons (pv 1) (pa_cons (pv 2) pa_nil))) (nomark _)))) (fun _ _ _ _ _ => (pv 7)))
    (pss_cons (ps_if (pt_cmpR op_eq (pe_callB (ki_len (K := K)) (by rfl) T.f_len (by decide +kernel) (pa_cons (pv 6) pa_nil)) (k_int T.c_MOST_LINKS (by rfl)) (nomark _)) (pss_one ps_never) pss_nil)
    (pss_one (ps_ret (pe_makeD C_Net (hr.mono (by decide)) (by rfl) (pa_cons (ki_fld (K := K) (pv 0) rfl) (pa_cons (pe_callTy (ki_tuple (K := K)) (by rfl) T.f_tuple (by decide +kernel) (pa_cons (QS.pe_srt (ki_srtT (K := K) rfl (hu65 hr)) (by rfl) T.f_sorted (by rfl) T.f_set (pe_op op_cat (pv 6) (pe_lst (pa_cons (pe_tup (pa_cons (pv 1) (pa_cons (pv 2) (pa_cons (pv 3) (pa_cons (pv 4) pa_nil))))) pa_nil)))) pa_nil)) pa_nil)))))))))), ?_⟩
  walk_at "aa"
  refine ⟨by show 2 ≤ sizeLine; decide, nwN fun t1 H1 n1 s1 h1 => ?_⟩
  refine ⟨n, t1, [l.a, l.b], R, ls, rfl, hn.same s1, h1, fun z hz => ?_, fun H2 s2 => ?_⟩
  · rcases List.mem_cons.mp hz with rfl | hz
    · exact ol.ra
    · rw [List.mem_singleton.mp hz]; exact ol.rb
  walk_at "aa"
  refine iteYN (of_decide_eq_true (show decide (l.a.cps.toList < l.b.cps.toList) = true from ol.lt)) ?_
  walk_at "aa"
  refine ⟨by show 2 ≤ sizeLine; decide, fun t3 n3 => ?_⟩
  have s3 := same_new (o := .tup [.int l.th, .int l.bk]) n3
  have h3 : upd H2 t3 (.tup [.int l.th, .int l.bk]) t3 = some (.tup [.int l.th, .int l.bk]) := upd_same
  generalize upd H2 t3 (.tup [.int l.th, .int l.bk]) = H3 at *
  have s13 := s1.trans (s2.trans s3)
  refine ⟨t3, rfl, ⟨_, SqT.of h3⟩, ?_⟩
  refine for_go (F := H3) (it_tup h3) (fun i σ H' => Same H3 H' ∧ ∃ q5 q6 q7, σ = [some (.ref n), some (.str l.a), some (.str l.b), some (.int l.th), some (.int l.bk), q5, q6, q7]) ⟨Same.refl H3, _, _, _, rfl⟩ (fun _ _ _ h => h.1) (fun _ _ _ _ s h => ⟨h.1.trans s, h.2⟩) ?_ ?_
  · rintro i x σ H4 hi ⟨sF, q5, q6, q7, rfl⟩ hx
    have hx' : ∃ v : Int, x = .int v ∧ 1 ≤ v := by
      rcases List.mem_cons.mp (List.mem_of_getElem? hx) with rfl | hx
      · exact ⟨_, rfl, ol.th⟩
      · rw [List.mem_singleton.mp hx]; exact ⟨_, rfl, ol.bk⟩
    obtain ⟨v, rfl, hv⟩ := hx'
    walk_at "aa"
    refine ⟨v, 1, rfl, ?_⟩
    rw [decide_eq_true hv]
    walk_at "aa"
    exact ⟨sF, _, _, _, rfl⟩
  · rintro σ H4 ⟨sF, q5, q6, q7, rfl⟩
    have s14 := s13.trans sF
    obtain ⟨dx, r, la, ws, hn1, hrr, hla, hls⟩ := (hn.same s14).at_
    walk_at "aa"
    refine ⟨n, CN, dx, _, _, rfl, hn1, T.net.cl, T.net.nl, (lk_tl (by decide +kernel) lk_hd), ?_⟩
    refine ⟨la, rfl, ⟨_, SqT.of hla⟩, fun D nD => ?_⟩
    refine lc_kept (a := l.a) (b := l.b) hla hls (by omega) (fun y hy => ⟨((ok2.each y hy).na ok1).ok, ((ok2.each y hy).nb ok1).ok⟩) (ol.na ok1).ok (ol.nb ok1).ok nD (fun _ => rfl) (fun _ => rfl) (fun _ => rfl) (fun _ => rfl) fun acc H5 s5 hD hacc => ?_
    have lacc := hacc.length
    walk_at "aa"
    refine iteZ (by omega) ?_
    walk_at "aa"
    have hn5 := hn1
    refine ⟨n, CN, dx, _, _, rfl, s5 _ _ hn1, T.net.cl, T.net.nr, lk_hd, ?_⟩
    walk_at "aa"
    refine ⟨by show 4 ≤ sizeLine; decide, fun t6 n6 => ?_⟩
    have s6 := same_new (o := .tup [.str l.a, .str l.b, .int l.th, .int l.bk]) n6
    walk_at "aa"
    refine ⟨by show 1 ≤ sizeLine; decide, fun t7 n7 => ?_⟩
    have s7 := same_new (o := .lst [.ref t6]) n7
    have s67 := s6.trans s7
    refine a_cat (s67 _ _ hD) upd_same (by simp; omega) fun p8 H8 n8 s8 h8 => ?_
    have s68 := s67.trans s8
    have hall : LinksAt H8 (acc ++ [.ref t6]) (less ls l.a l.b ++ [l]) := (hacc.ts (tsS s68)).snoc ⟨t6, rfl, s8 _ _ (s7 _ _ upd_same)⟩
    refine a_srtT h8 hall (with_nd ok2) (by simp; omega) fun zs ms p9 H9 pm pw n9 s9 h9 hms => ?_
    obtain ⟨om, wl⟩ := with_ok ok2 ol few pm pw
    walk_at "aa"
    refine a_tupL h9 fun pt H10 n10 s10 h10 => ?_
    walk_at "aa"
    have sE := s5.trans (s68.trans (s9.trans s10))
    exact mk_net (sE _ _ hrr) h10 (hms.ts (tsS s10)) ok1 om fun m H11 s11 h11 => k m H11 ms (s14.trans (sE.trans s11)) h11 om wl
/-! ### shifts -/
theorem less_lt {ls : List Lnk} {l : Lnk} (hl : l ∈ ls) : (less ls l.a l.b).length < ls.length := by
  have h := QT.filter_lt (R := ls) (P := fun k => decide (k.ab ≠ (l.a, l.b))) (Q := fun _ => true) (y := l) (fun _ _ _ => rfl) hl (decide_eq_false (fun h => h rfl)) rfl
  rw [show ls.filter (fun _ => true) = ls from List.filter_eq_self.mpr fun _ _ => rfl] at h
  exact h
def spShifted (CN : Addr) : Sp := fun vs H Q _ => ∃ (n : Addr) (R : List Str) (ls : List Lnk) (l : Lnk) (t : Option Int), vs = [.ref n, .str l.a, .str l.b, oV t] ∧ NetAt CN H n R ls ∧ RoutersOk R ∧ LinksOk R ls ∧ l ∈ ls ∧ (lkOf ls l).Fit t ∧
  ∀ (m : Addr) (H' : Hp) (ms : List Lnk), Same H H' → NetAt CN H' m R ms → LinksOk R ms → arcs ms = (lkOf ls l).at t → Q (.ref m) H'
abbrev N_shifted : List Str := ["net", "a", "b", "t", "there", "back"]
theorem sc_shifted : FnScope N_shifted ["net", "a", "b", "t"] (defScope QH.s_shifted) := ⟨rfl, rfl, rfl, by decide +kernel, rfl, by decide +kernel, by decide +kernel⟩
theorem net_meth {C dx n : Addr} {fs : List (Str × V)} {m : Str} {H : Hp} {S : Hp → Prop} (h : H n = some (.ins C dx fs)) (l : fs.lookup m = none) (q : S H) : ∃ a dx fs, V.ref n = .ref a ∧ H a = some (.ins C dx fs) ∧ fs.lookup m = none ∧ S H := ⟨n, dx, fs, rfl, h, l, q⟩
theorem D_shifted (T : Tx P w K mg base CN CC) (F : FunAt K mg "shifted" QH.s_shifted) (D_link_of : DefOk P w K mg base "link_of" ["net", "a", "b"] (spLinkOf CN) 3) (D_is_integer : DefOk P w K mg base "is_integer" ["value"] spIsInteger 1)
    (M_Net_without : MethOk P w K mg base CN "without" ["self", "a", "b"] (spWithout CN) 7) (M_Net_with_link : MethOk P w K mg base CN "with_link" ["self", "a", "b", "there", "back"] (spWithLink CN) 7) : DefOk P w K mg base "shifted" ["net", "a", "b", "t"] (spShifted CN) 8 := by
  refine mk_def F sc_shifted (fun _ _ _ _ _ _ us hl => match us, hl with | [_, _, _, _], _ => rfl) (fun vs H Q E h => by obtain ⟨n, R, ls, l, t, rfl, _⟩ := h; rfl) (fun f cdv A outer s H vs Q E hr h => ?_)
  have nd := sc_shifted.nd
  obtain ⟨n, R, ls, l, t, rfl, hn, ok1, ok2, hl, ft, k⟩ := h
  have ol := ok2.each l hl
  refine ⟨_, (pss_cons (ps_asg (pe_slice (ki_slA (K := K)) (pe_callD D_link_of (hr.mono (by decide)) (by rfl) (pa_cons (pv 0) (pa_cons (pv 1) (pa_cons (pv 2) pa_nil)))) (po_some pe_int) po_none) (ki_gtup (K := K) rfl (pgs_cons (pg_name (i := 4) nd rfl (by first | exact Or.inl rfl | exact Or.inr rfl)) (pgs_cons (pg_name (i := 5) nd rfl (by first | exact Or.inl rfl | exact Or.inr rfl)) pgs_nil))))
    (pss_cons (ps_if (pt_cmpR op_isN1 (pv 3) pe_non (nomark _)) (pss_one (ps_ret (pe_methD M_Net_without (hr.mono (by decide)) (pv 0) (pa_cons (pv 1) (pa_cons (pv 2) pa_nil))))) pss_nil)
    (pss_cons (ps_if (PW.pt (pw_or (pt_not (pt_val (pe_callD D_is_integer (hr.mono (by decide)) (by rfl) (pa_cons (pv 3) pa_nil)))) (pw_or (pt_cmpR op_lt (pe_op op_add (pv 4) (pv 3)) pe_int (nomark _)) (pw_or1 (pt_cmpR op_lt (pe_op op_add (pv 5) (pv 3)) pe_int (nomark _)))))) (pss_one ps_never) pss_nil)
    (pss_one (ps_ret (pe_methD M_Net_with_link (hr.mono (by decide)) (pv 0) (pa_cons (pv 1) (pa_cons (pv 2) (pa_cons (pe_op op_add (pv 4) (pv 3)) (pa_cons (pe_op op_add (pv 5) (pv 3)) pa_nil)))))))))), ?_⟩
  walk_at "aa"
  refine ⟨n, R, ls, l, rfl, hn, ok2.nd, hl, fun H1 v s1 ⟨lt, ev, hlt⟩ => ?_⟩
  subst ev
  walk_at "aa"
  refine a_slT hlt fun p2 H2 s2 h2 => ?_
  have h2 : H2 p2 = some (.tup [.int l.th, .int l.bk]) := h2
  refine a_gtup h2 rfl ?_
  walk_at "aa"
  have s12 := s1.trans s2
  obtain ⟨dx, r, la, ws, hn1, hrr, hla, hls⟩ := (hn.same s12).at_
  cases t with
  | none =>
    refine iteY rfl ?_
    walk_at "aa"
    refine ⟨n, dx, _, rfl, hn1, lk_tl (by decide +kernel) (lk_tl (by decide +kernel) rfl), ?_⟩
    walk_at "aa"
    exact ⟨n, R, ls, l, rfl, hn.same s12, ok1, ok2, hl, fun m H3 s3 h3 => k m H3 _ (s12.trans s3) h3 (sub_links ok2 (less_sub ..)) rfl⟩
  | some t =>
    have ft : 1 ≤ l.th + t ∧ 1 ≤ l.bk + t := ft
    refine iteZ (fun h => nomatch h) ?_
    walk_at "aa"
    refine ⟨t, rfl, ?_⟩
    walk_at "aa"
    refine iteZ (by omega) ?_
    walk_at "aa"
    refine iteZ (by omega) ?_
    walk_at "aa"
    refine ⟨n, dx, _, rfl, hn1, lk_tl (by decide +kernel) (lk_tl (by decide +kernel) rfl), ?_⟩
    walk_at "aa"
    refine ⟨n, R, ls, ⟨l.a, l.b, l.th + t, l.bk + t⟩, rfl, hn.same s12, ok1, ok2, ⟨ol.ra, ol.rb, ol.lt, ft.1, ft.2⟩, (by have := less_lt hl; have := ok2.most; show (less ls l.a l.b).length < 16; omega), fun m H3 ms s3 h3 om wl => k m H3 ms (s12.trans s3) h3 om (arcs_at ok2 hl om wl)⟩
end QB
set_option Elab.async false
set_option linter.all false
set_option maxRecDepth 100000
set_option maxHeartbeats 4000000

namespace QB
open PySem PySem.Spec L2
open PyProof.Rows (envOfC)
open PySem.PyData (strOk)
open RZ (Ty4 rIsTy call_isTy pi_zipA iZipA ItzT for_zipT for_zipL)
open StX (tStar pa_star)
open QS (SrtR tSrt rSrtI rSrtS rSrtT)
local macro_rules | `(tactic| walk_at "hp") => `(tactic| first | assumption | exact upd_same | (refine sg (by assumption) ?_; walk_at "hp"))
local macro_rules | `(tactic| walk_at "a") => `(tactic| first
  | with_reducible refine a_seq ?_ | with_reducible refine a_asg ?_ | with_reducible refine a_drop ?_ | with_reducible refine a_ret ?_ | with_reducible refine a_retN ?_
  | with_reducible refine a_ifS ?_ | with_reducible refine a_next ?_ | with_reducible refine a_gname ?_ | with_reducible refine a_nx ?_ | with_reducible refine a_rt ?_ | with_reducible refine a_bk ?_ | with_reducible refine a_ct ?_
  | ((with_reducible show tVar _ _ _ _); refine a_var rfl ?_) | with_reducible refine a_c ?_ | with_reducible refine a_op ?_ | with_reducible refine a_un ?_ | with_reducible refine a_cb ?_ | with_reducible refine a_nil ?_ | with_reducible refine a_cons ?_
  | with_reducible refine a_call ?_ | with_reducible refine a_meth ?_ | with_reducible refine a_make ?_ | with_reducible refine a_test ?_ | with_reducible refine a_tTest ?_ | with_reducible refine a_tand ?_ | with_reducible refine a_tor ?_ | with_reducible refine a_tnot ?_
  | with_reducible refine a_and ?_ | with_reducible refine a_or ?_ | with_reducible refine a_not ?_ | with_reducible refine a_if ?_ | with_reducible refine a_ri0 ?_ | with_reducible refine a_tup ?_ | with_reducible refine a_lst ?_
  | with_reducible refine a_bl ?_ | with_reducible refine a_sfld ?_ | with_reducible refine a_exI ?_ | with_reducible refine a_exZ ?_ | with_reducible refine a_chain ?_ | with_reducible refine a_lc ?_ | with_reducible refine a_yes ?_ | with_reducible refine a_gcons ?_ | with_reducible refine a_gnil ?_ | with_reducible refine w_list ?_ | with_reducible refine w_tup ?_ | with_reducible refine w_str ?_ | with_reducible refine w_rng1 ?_ | with_reducible refine w_zip ?_ | with_reducible refine w_zipA ?_
  | with_reducible refine a_tFld ?_ | with_reducible refine a_dget ?_ | with_reducible refine a_din ?_ | with_reducible refine a_dnin ?_ | with_reducible refine a_sl ?_ | with_reducible refine a_slNone ?_ | with_reducible refine a_slSome ?_
  | with_reducible refine a_isN ?_ | with_reducible refine a_notN ?_ | with_reducible refine a_eqI ?_ | with_reducible refine a_neI ?_ | with_reducible refine a_eqZ ?_ | with_reducible refine a_neZ ?_ | with_reducible refine a_ltZ ?_ | with_reducible refine a_int ?_ | with_reducible refine a_intB ?_ | with_reducible refine a_abs ?_ | with_reducible refine a_max2 ?_ | with_reducible refine a_min2 ?_ | with_reducible refine a_bm ?_
  | ((with_reducible show rLenQ _ _ _ _); first | refine a_lenT (by walk_at "hp") ?_ | refine a_lenL (by walk_at "hp") ?_)
  | with_reducible refine a_prsC ?_ | with_reducible refine a_prsN ?_ | with_reducible refine a_for ?_ | with_reducible refine a_dput ?_ | with_reducible refine w_keys ?_ | with_reducible refine w_listT ?_
  | with_reducible refine QB.a_rU ?_ | with_reducible refine QB.a_cKw ?_ | with_reducible refine QB.a_star ?_ | with_reducible refine QB.a_dget2 ?_
  | with_reducible refine QB.a_par ?_ | with_reducible refine QB.a_par3 ?_
  | with_reducible refine QB.a_srt ?_
  | with_reducible refine QB.a_dc ?_
  | with_reducible refine iteT ?_ | with_reducible refine iteNT ?_ | with_reducible refine iteNF ?_ | with_reducible refine iteF ?_ | with_reducible refine a_prop ?_)
local macro_rules | `(tactic| walk_at "aa") => `(tactic| (walk_at "a"; repeat walk_at "a"))

variable {P : Program} {w : World} {K : PySem.W.Frag} {mg : Str → Option Value} {base : Heap} {CN CC : Addr}
/-- the plain distances, by destinations -/
def PlainAt (H : Hp) (p : Addr) (R : List Str) (ms : List Lnk) : Prop := ∃ g, DK H p R g ∧ ∀ d ∈ R, ∃ q, g d = some (.ref q) ∧ DisAt H q R (QT.dist (arcs ms) d)
theorem PlainAt.same {H H' : Hp} {p : Addr} {R : List Str} {ms : List Lnk} (s : Same H H') (h : PlainAt H p R ms) : PlainAt H' p R ms := by
  obtain ⟨g, h1, h2⟩ := h
  refine ⟨g, h1.same s, fun d hd => ?_⟩
  obtain ⟨q, e, hq⟩ := h2 d hd
  exact ⟨q, e, hq.same s⟩
def leastOf (l : Lnk) : Int := 1 - (if l.th < l.bk then l.th else l.bk)
/-- a change at an address -/
structure ChgAt (CN CC : Addr) (H : Hp) (c : Addr) (R : List Str) (ls : List Lnk) (l : Lnk) : Prop where
  at_ : ∃ dx n pr m pl ov o1 o2, H c = some (.ins CC dx [("own_net", .ref n), ("pair", .ref pr), ("least", .int (leastOf l)), ("lengths", .ref m), ("plain", .ref pl), ("ways_over", .ref ov)]) ∧
    NetAt CN H n R ls ∧ H pr = some (.tup [.str l.a, .str l.b]) ∧ LenAt H m (less ls l.a l.b) ∧ PlainAt H pl R (less ls l.a l.b) ∧ H ov = some (.tup [.ref o1, .ref o2]) ∧ H o1 = some (.tup [.str l.a, .int l.th, .str l.b]) ∧ H o2 = some (.tup [.str l.b, .int l.bk, .str l.a])
theorem ChgAt.same {H H' : Hp} {c : Addr} {R : List Str} {ls : List Lnk} {l : Lnk} (s : Same H H') (h : ChgAt CN CC H c R ls l) : ChgAt CN CC H' c R ls l := by
  obtain ⟨dx, n, pr, m, pl, ov, o1, o2, h1, h2, h3, h4, h5, h6, h7, h8⟩ := h.at_
  exact ⟨dx, n, pr, m, pl, ov, o1, o2, s _ _ h1, h2.same s, s _ _ h3, s _ _ h4, h5.same s, s _ _ h6, s _ _ h7, s _ _ h8⟩
section
variable {n pr ls m pl ov : V}
theorem cf1 : [(("own_net" : Str), n), ("pair", pr), ("least", ls), ("lengths", m), ("plain", pl), ("ways_over", ov)].lookup ("own_net" : Str) = some n := lk_hd
theorem cf2 : [(("own_net" : Str), n), ("pair", pr), ("least", ls), ("lengths", m), ("plain", pl), ("ways_over", ov)].lookup ("pair" : Str) = some pr := lk_tl (by decide +kernel) lk_hd
theorem cf3 : [(("own_net" : Str), n), ("pair", pr), ("least", ls), ("lengths", m), ("plain", pl), ("ways_over", ov)].lookup ("least" : Str) = some ls := lk_tl (by decide +kernel) (lk_tl (by decide +kernel) lk_hd)
theorem cf4 : [(("own_net" : Str), n), ("pair", pr), ("least", ls), ("lengths", m), ("plain", pl), ("ways_over", ov)].lookup ("lengths" : Str) = some m := lk_tl (by decide +kernel) (lk_tl (by decide +kernel) (lk_tl (by decide +kernel) lk_hd))
theorem cf5 : [(("own_net" : Str), n), ("pair", pr), ("least", ls), ("lengths", m), ("plain", pl), ("ways_over", ov)].lookup ("plain" : Str) = some pl := lk_tl (by decide +kernel) (lk_tl (by decide +kernel) (lk_tl (by decide +kernel) (lk_tl (by decide +kernel) lk_hd)))
theorem cf6 : [(("own_net" : Str), n), ("pair", pr), ("least", ls), ("lengths", m), ("plain", pl), ("ways_over", ov)].lookup ("ways_over" : Str) = some ov := lk_tl (by decide +kernel) (lk_tl (by decide +kernel) (lk_tl (by decide +kernel) (lk_tl (by decide +kernel) (lk_tl (by decide +kernel) lk_hd))))
end
theorem ite_var {p : Prop} [Decidable p] {i j : Nat} {x y : Int} {σ : L2.St} {H : Hp} {S : VK} (hi : σ[i]? = some (some (.int x))) (hj : σ[j]? = some (some (.int y))) (h : S (.int (if p then x else y)) H) : if decide p = true then tVar i σ H S else tVar j σ H S := by
  by_cases c : p
  · rw [if_pos c] at h
    rw [decide_eq_true c, if_pos rfl]
    exact ⟨_, hi, h⟩
  · rw [if_neg c] at h
    rw [decide_eq_false c, if_neg (by decide)]
    exact ⟨_, hj, h⟩
def spChgInit (CN CC : Addr) : Sp := fun vs H Q _ => ∃ (c dx n : Addr) (R : List Str) (ls : List Lnk) (l : Lnk), vs = [.ref c, .ref n, .str l.a, .str l.b] ∧ H c = some (.ins CC dx []) ∧ NetAt CN H n R ls ∧ RoutersOk R ∧ LinksOk R ls ∧ l ∈ ls ∧ ∀ H', But c H H' → ChgAt CN CC H' c R ls l → Q .non H'
theorem NetAt.but {H H' : Hp} {c dx n : Addr} {R : List Str} {ls : List Lnk} {fs : List (Str × V)} (hc : H c = some (.ins CC dx fs)) (ne : fs.length ≠ 2) (s : But c H H') (h : NetAt CN H n R ls) : NetAt CN H' n R ls := by
  obtain ⟨dx', r, la, ws, h1, h2, h3, h4⟩ := h.at_
  have nt : ∀ a xs, H a = some (.tup xs) → a ≠ c := by rintro a xs e rfl; rw [hc] at e; cases e
  have nn : n ≠ c := by
    rintro rfl
    rw [hc] at h1
    injection h1 with h1
    injection h1 with _ _ h1
    rw [h1] at ne
    exact ne rfl
  exact ⟨dx', r, la, ws, s _ _ nn h1, s _ _ (nt _ _ h2) h2, s _ _ (nt _ _ h3) h3, h4.ts fun a xs e => s _ _ (nt _ _ e) e⟩
abbrev N_Change_init : List Str := ["self", "net", "a", "b", "there", "back", "d"]
theorem sc_Change_init : FnScope N_Change_init ["self", "net", "a", "b"] (defScope QH.s_Change_init) := ⟨rfl, rfl, rfl, by decide +kernel, rfl, by decide +kernel, by decide +kernel⟩
theorem b_Change_init (T : Tx P w K mg base CN CC) (D_link_of : DefOk P w K mg base "link_of" ["net", "a", "b"] (spLinkOf CN) 3) (D_lengths_of : DefOk P w K mg base "lengths_of" ["net"] (spLengthsOf CN) 3) (D_distances_to : DefOk P w K mg base "distances_to" ["routers", "lengths", "d"] spDist 1)
    (M_Net_without : MethOk P w K mg base CN "without" ["self", "a", "b"] (spWithout CN) 7) {f : Addr} {fd : FuncData} (F : Fun K "__init__" "Change.__init__" QH.s_Change_init f fd) : FnOk P w K mg base CX0 8 f fd ["self", "net", "a", "b"] (spChgInit CN CC) := by
  refine F.ok sc_Change_init (fun vs H Q E h => by obtain ⟨c, dx, n, R, ls, l, rfl, _⟩ := h; rfl) (fun cdv A outer s H vs Q E hr h => ?_)
  have nd := sc_Change_init.nd
  obtain ⟨c, dx, n, R, ls, l, rfl, hc, hn, ok1, ok2, hl, k⟩ := h
  refine ⟨_, (pss_cons (ps_asg (pe_slice (ki_slA (K := K)) (pe_callD D_link_of (hr.mono (by decide)) (by rfl) (pa_cons (pv 1) (pa_cons (pv 2) (pa_cons (pv 3) pa_nil)))) (po_some pe_int) po_none) (ki_gtup (K := K) rfl (pgs_cons (pg_name (i := 4) nd rfl (by first | exact Or.inl rfl | exact Or.inr rfl)) (pgs_cons (pg_name (i := 5) nd rfl (by first | exact Or.inl rfl | exact Or.inr rfl)) pgs_nil))))
    (pss_cons (ps_fld (pv 0) (pv 1) rfl)
    (pss_cons (ps_fld (pv 0) (pe_tup (pa_cons (pv 2) (pa_cons (pv 3) pa_nil))) rfl)
    (pss_cons (ps_fld (pv 0) (pe_op op_sub pe_int (pe_ifExp (pt_cmpR op_lt (pv 4) (pv 5) (nomark _)) (pv 4) (pv 5))) rfl)
    (pss_cons (ps_fld (pv 0) (pe_callD D_lengths_of (hr.mono (by decide)) (by rfl) (pa_cons (pe_methD M_Net_without (hr.mono (by decide)) (pv 1) (pa_cons (pv 2) (pa_cons (pv 3) pa_nil))) pa_nil)) rfl)
    (pss_cons (ps_fld (pv 0) (pe_dc (own := [("d", 6)]) (g := (gName 6)) (tt := tYes) rfl nd (ki_ptup (K := K) (pe_routers T.net (hr.mono (by decide)) (pv 1) rfl)) (blkOk_by (by with_unfolding_all rfl)) (fun _ _ _ _ _ => (pg_name (i := 6) nd rfl (by first | exact Or.inl rfl | exact Or.inr rfl))) (fun _ _ _ _ _ => pts_nil) (fun _ _ _ _ _ => (pv 6)) (fun _ _ _ _ _ => (pe_callD D_distances_to (hr.mono (by decide)) (by rfl) (pa_cons (pe_routers T.net (hr.mono (by decide)) (pv 1) rfl) (pa_cons (ki_fld (K := K) (pv 0) rfl) (pa_cons (pv 6) pa_nil)))))) rfl)
    (pss_one (ps_fld (pv 0) (pe_tup (pa_cons (pe_tup (pa_cons (pv 2) (pa_cons (pv 4) (pa_cons (pv 3) pa_nil)))) (pa_cons (pe_tup (pa_cons (pv 3) (pa_cons (pv 5) (pa_cons (pv 2) pa_nil)))) pa_nil))) rfl)))))))), ?_⟩
  have h8 := ok1.most
  have hs := sub_links ok2 (less_sub ls l.a l.b)
  walk_at "aa"
  refine ⟨n, R, ls, l, rfl, hn, ok2.nd, hl, fun H1 v s1 ⟨lt, ev, hlt⟩ => ?_⟩
  subst ev
  walk_at "aa"
  refine a_slT hlt fun p2 H2 s2 h2 => ?_
  have h2 : H2 p2 = some (.tup [.int l.th, .int l.bk]) := h2
  refine a_gtup h2 rfl ?_
  walk_at "aa"
  have s12 := s1.trans s2
  refine a_putB [("own_net", .ref n)] (s12 _ _ hc) T.chg T.ch_net (by show 0 < 1000; decide) rfl fun H3 c3 b3' => ?_
  have b3 : But c H H3 := (But.refl.same s12).trans b3'
  walk_at "aa"
  refine ⟨by show 2 ≤ sizeLine; decide, fun pr npr => ?_⟩
  have s4 := same_new (o := .tup [.str l.a, .str l.b]) npr
  have h4 : upd H3 pr (.tup [.str l.a, .str l.b]) pr = some (.tup [.str l.a, .str l.b]) := upd_same
  walk_at "aa"
  refine a_putB [("own_net", .ref n), ("pair", .ref pr)] (s4 _ _ c3) T.chg T.ch_pair (by show 1 < 1000; decide) (putF_new (show ("pair" : Str) ∉ [("own_net" : Str)] by decide +kernel)) fun H5 c5 b5' => ?_
  have b5 : But c H H5 := (b3.same s4).trans b5'
  have h5 : H5 pr = some (.tup [.str l.a, .str l.b]) := b5'.ins (s4 _ _ c3) h4
  walk_at "aa"
  refine ite_var rfl rfl ?_
  walk_at "aa"
  refine a_putB [("own_net", .ref n), ("pair", .ref pr), ("least", .int (leastOf l))] c5 T.chg T.ch_least (by show 2 < 1000; decide) (putF_new (show ("least" : Str) ∉ [("own_net" : Str), "pair"] by decide +kernel)) fun H6 c6 b6' => ?_
  have b6 : But c H H6 := b5.trans b6'
  have h6 : H6 pr = some (.tup [.str l.a, .str l.b]) := b6'.ins c5 h5
  have hn6 : NetAt CN H6 n R ls := hn.but hc (by decide) b6
  walk_at "aa"
  obtain ⟨dx6, r6, la6, ws6, e6, -, -, -⟩ := hn6.at_
  refine ⟨n, dx6, _, rfl, e6, lk_tl (by decide +kernel) (lk_tl (by decide +kernel) rfl), ?_⟩
  walk_at "aa"
  refine ⟨n, R, ls, l, rfl, hn6, ok1, ok2, hl, fun m7 H7 s7 hm7 => ?_⟩
  walk_at "aa"
  refine ⟨m7, R, less ls l.a l.b, rfl, hm7, hs, fun m H8 s8 hm => ?_⟩
  walk_at "aa"
  have c8 := s8 _ _ (s7 _ _ c6)
  refine a_putB [("own_net", .ref n), ("pair", .ref pr), ("least", .int (leastOf l)), ("lengths", .ref m)] c8 T.chg T.ch_lengths (by show 3 < 1000; decide) (putF_new (show ("lengths" : Str) ∉ [("own_net" : Str), "pair", "least"] by decide +kernel)) fun H9 c9 b9' => ?_
  have b9 : But c H H9 := ((b6.same s7).same s8).trans b9'
  have h9 : H9 pr = some (.tup [.str l.a, .str l.b]) := b9'.ins c8 (s8 _ _ (s7 _ _ h6))
  have mc : m ≠ c := by rintro rfl; rw [show H8 m = _ from hm] at c8; cases c8
  have hm9 : LenAt H9 m (less ls l.a l.b) := b9' _ _ mc hm
  have hn9 : NetAt CN H9 n R ls := hn.but hc (by decide) b9
  obtain ⟨dx9, r9, la9, ws9, e9, hr9, -, -⟩ := hn9.at_
  walk_at "aa"
  refine n_routers hn9 fun r hr => ?_
  refine ⟨r, rfl, ⟨_, SqT.of hr⟩, fun D nD => ?_⟩
  refine dc_go (it_tup hr) (Same.refl H9) nD (fun i kvs H => (kvs.map (·.1)).Nodup ∧ (∀ k ∈ kvs.map (·.1), k ∈ domS R) ∧ ∀ d ∈ R.take i, ∃ q, valV kvs (.inr d) = some (.ref q) ∧ q ≠ D ∧ DisAt H q R (QT.dist (arcs (less ls l.a l.b)) d)) ⟨.nil, fun _ h => (nomatch h), fun d h => by simp at h⟩ ?_ ?_ ?_
  · rintro i kvs Ha Hb ext ⟨q1, q2, q3⟩
    refine ⟨q1, q2, fun d hd => ?_⟩
    obtain ⟨q, e, ne, hq⟩ := q3 d hd
    obtain ⟨kv2, e2, r2⟩ := hq
    exact ⟨q, e, ne, kv2, ext _ _ ne e2, r2⟩
  · rintro i kvs Ha x hi sF hD ⟨q1, q2, q3⟩ hx
    rw [List.getElem?_map] at hx
    obtain ⟨d, e1, rfl⟩ := Option.map_eq_some_iff.mp hx
    have hd := List.mem_of_getElem? e1
    have okk : KeyOk (domS R) (valV kvs) kvs := ⟨fun _ => rfl, q1, q2⟩
    walk_at "aa"
    refine ⟨rfl, ?_⟩
    walk_at "aa"
    refine n_routers (hn9.same sF) fun ra hra => ?_
    walk_at "aa"
    refine ⟨c, CC, dx, _, _, rfl, sF _ _ c9, T.chg, T.ch_lengths, lk_tl (by decide +kernel) (lk_tl (by decide +kernel) (lk_tl (by decide +kernel) lk_hd)), ?_⟩
    walk_at "aa"
    refine ⟨ra, m, R, less ls l.a l.b, d, rfl, hra, sF _ _ hm9, ok1, hs, hd, fun q Hc nq sc hq => ?_⟩
    have qD : q ≠ D := by rintro rfl; rw [hD] at nq; cases nq
    have okp := okk.put (k := .inr d) (mem_domS.mpr hd) (.ref q)
    refine ⟨kvs, .inr d, rfl, sc _ _ hD, ?_, _, same_mut (sF.trans sc) nD, upd_same, okp.nd, okp.dom, fun d' hd' => ?_⟩
    · have := okk.le
      rw [length_domS] at this
      exact Nat.lt_of_le_of_lt this (Nat.lt_of_le_of_lt h8 (by decide))
    · rw [okp.val]
      by_cases cd : d' = d
      · subst cd
        exact ⟨q, if_pos rfl, qD, DK.stay (upd_ne qD) hq⟩
      · rw [if_neg (fun e => cd (by injection e))]
        obtain ⟨q', e', ne', hq'⟩ := q3 d' (((mem_take e1).mp hd').resolve_right cd)
        exact ⟨q', e', ne', DK.stay (upd_ne ne') (hq'.same sc)⟩
  · rintro kvs H10 sF hD ⟨q1, q2, q3⟩
    have pl10 : PlainAt H10 D R (less ls l.a l.b) := by
      refine ⟨fun z => valV kvs (.inr z), ⟨kvs, hD, fun _ => rfl, q1, q2⟩, fun d hd => ?_⟩
      obtain ⟨q, e, _, hq⟩ := q3 d (by rw [List.take_of_length_le (by simp)]; exact hd)
      exact ⟨q, e, hq⟩
    have c10 := sF _ _ c9
    walk_at "aa"
    refine a_putB [("own_net", .ref n), ("pair", .ref pr), ("least", .int (leastOf l)), ("lengths", .ref m), ("plain", .ref D)] c10 T.chg T.ch_plain (by show 4 < 1000; decide) (putF_new (show ("plain" : Str) ∉ [("own_net" : Str), "pair", "least", "lengths"] by decide +kernel)) fun H11 c11 b11' => ?_
    have dk : ∀ a kv, H10 a = some (.dK kv) → a ≠ c := by rintro a kv e rfl; rw [c10] at e; cases e
    have pl11 : PlainAt H11 D R (less ls l.a l.b) := by
      obtain ⟨g, ⟨kv, e, r⟩, hg⟩ := pl10
      refine ⟨g, ⟨kv, b11' _ _ (dk _ _ e) e, r⟩, fun d hd => ?_⟩
      obtain ⟨q, eq, kv2, e2, r2⟩ := hg d hd
      exact ⟨q, eq, kv2, b11' _ _ (dk _ _ e2) e2, r2⟩
    have b11 : But c H H11 := (b9.same sF).trans b11'
    have h11 : H11 pr = some (.tup [.str l.a, .str l.b]) := b11'.ins c10 (sF _ _ h9)
    have hm11 : LenAt H11 m (less ls l.a l.b) := b11' _ _ mc (sF _ _ hm9)
    walk_at "aa"
    refine ⟨by show 3 ≤ sizeLine; decide, fun o1 no1 => ?_⟩
    have s12' := same_new (o := .tup [.str l.a, .int l.th, .str l.b]) no1
    walk_at "aa"
    refine ⟨by show 3 ≤ sizeLine; decide, fun o2 no2 => ?_⟩
    have s13 := same_new (o := .tup [.str l.b, .int l.bk, .str l.a]) no2
    walk_at "aa"
    refine ⟨by show 2 ≤ sizeLine; decide, fun ov nov => ?_⟩
    have s14 := same_new (o := .tup [.ref o1, .ref o2]) nov
    have sE := s12'.trans (s13.trans s14)
    have hov : upd (upd (upd H11 o1 (.tup [.str l.a, .int l.th, .str l.b])) o2 (.tup [.str l.b, .int l.bk, .str l.a])) ov (.tup [.ref o1, .ref o2]) ov = some (.tup [.ref o1, .ref o2]) := upd_same
    have ho2 : upd (upd (upd H11 o1 (.tup [.str l.a, .int l.th, .str l.b])) o2 (.tup [.str l.b, .int l.bk, .str l.a])) ov (.tup [.ref o1, .ref o2]) o2 = some (.tup [.str l.b, .int l.bk, .str l.a]) := s14 _ _ upd_same
    have ho1 : upd (upd (upd H11 o1 (.tup [.str l.a, .int l.th, .str l.b])) o2 (.tup [.str l.b, .int l.bk, .str l.a])) ov (.tup [.ref o1, .ref o2]) o1 = some (.tup [.str l.a, .int l.th, .str l.b]) := s14 _ _ (s13 _ _ upd_same)
    walk_at "aa"
    refine a_putB [("own_net", .ref n), ("pair", .ref pr), ("least", .int (leastOf l)), ("lengths", .ref m), ("plain", .ref D), ("ways_over", .ref ov)] (sE _ _ c11) T.chg T.ch_over (by show 5 < 1000; decide) (putF_new (show ("ways_over" : Str) ∉ [("own_net" : Str), "pair", "least", "lengths", "plain"] by decide +kernel)) fun H12 c12 b12' => ?_
    have bE : But c H H12 := (b11.same sE).trans b12'
    have cE := sE _ _ c11
    refine k H12 bE ⟨dx, n, pr, m, D, ov, o1, o2, c12, hn.but hc (by decide) bE, b12'.ins cE (sE _ _ h11), b12' _ _ mc (sE _ _ hm11), ?_, b12'.ins cE hov, b12'.ins cE ho1, b12'.ins cE ho2⟩
    obtain ⟨g, ⟨kv, e, r⟩, hg⟩ := pl11.same sE
    have dk' : ∀ a kv, upd (upd (upd H11 o1 (.tup [.str l.a, .int l.th, .str l.b])) o2 (.tup [.str l.b, .int l.bk, .str l.a])) ov (.tup [.ref o1, .ref o2]) a = some (.dK kv) → a ≠ c := by rintro a kv e rfl; rw [cE] at e; cases e
    refine ⟨g, ⟨kv, b12' _ _ (dk' _ _ e) e, r⟩, fun d hd => ?_⟩
    obtain ⟨q, eq, kv2, e2, r2⟩ := hg d hd
    exact ⟨q, eq, kv2, b12' _ _ (dk' _ _ e2) e2, r2⟩
end QB
set_option Elab.async false
set_option linter.all false
set_option maxRecDepth 100000
set_option maxHeartbeats 4000000

namespace QB
open PySem PySem.Spec L2
open PyProof.Rows (envOfC)
open PySem.PyData (strOk)
open RZ (Ty4 rIsTy call_isTy pi_zipA iZipA ItzT for_zipT for_zipL)
open StX (tStar pa_star)
open QS (SrtR tSrt rSrtI rSrtS rSrtT)
local macro_rules | `(tactic| walk_at "hp") => `(tactic| first | assumption | exact upd_same | (refine sg (by assumption) ?_; walk_at "hp"))
local macro_rules | `(tactic| walk_at "a") => `(tactic| first
  | with_reducible refine a_seq ?_ | with_reducible refine a_asg ?_ | with_reducible refine a_drop ?_ | with_reducible refine a_ret ?_ | with_reducible refine a_retN ?_
  | with_reducible refine a_ifS ?_ | with_reducible refine a_next ?_ | with_reducible refine a_gname ?_ | with_reducible refine a_nx ?_ | with_reducible refine a_rt ?_ | with_reducible refine a_bk ?_ | with_reducible refine a_ct ?_
  | ((with_reducible show tVar _ _ _ _); refine a_var rfl ?_) | with_reducible refine a_c ?_ | with_reducible refine a_op ?_ | with_reducible refine a_un ?_ | with_reducible refine a_cb ?_ | with_reducible refine a_nil ?_ | with_reducible refine a_cons ?_
  | with_reducible refine a_call ?_ | with_reducible refine a_meth ?_ | with_reducible refine a_make ?_ | with_reducible refine a_test ?_ | with_reducible refine a_tTest ?_ | with_reducible refine a_tand ?_ | with_reducible refine a_tor ?_ | with_reducible refine a_tnot ?_
  | with_reducible refine a_and ?_ | with_reducible refine a_or ?_ | with_reducible refine a_not ?_ | with_reducible refine a_if ?_ | with_reducible refine a_ri0 ?_ | with_reducible refine a_tup ?_ | with_reducible refine a_lst ?_
  | with_reducible refine a_bl ?_ | with_reducible refine a_sfld ?_ | with_reducible refine a_exI ?_ | with_reducible refine a_exZ ?_ | with_reducible refine a_chain ?_ | with_reducible refine a_lc ?_ | with_reducible refine a_yes ?_ | with_reducible refine a_gcons ?_ | with_reducible refine a_gnil ?_ | with_reducible refine w_list ?_ | with_reducible refine w_tup ?_ | with_reducible refine w_str ?_ | with_reducible refine w_rng1 ?_ | with_reducible refine w_zip ?_ | with_reducible refine w_zipA ?_
  | with_reducible refine a_tFld ?_ | with_reducible refine a_dget ?_ | with_reducible refine a_din ?_ | with_reducible refine a_dnin ?_ | with_reducible refine a_sl ?_ | with_reducible refine a_slNone ?_ | with_reducible refine a_slSome ?_
  | with_reducible refine a_isN ?_ | with_reducible refine a_notN ?_ | with_reducible refine a_eqI ?_ | with_reducible refine a_neI ?_ | with_reducible refine a_eqZ ?_ | with_reducible refine a_neZ ?_ | with_reducible refine a_ltZ ?_ | with_reducible refine a_int ?_ | with_reducible refine a_intB ?_ | with_reducible refine a_abs ?_ | with_reducible refine a_max2 ?_ | with_reducible refine a_min2 ?_ | with_reducible refine a_bm ?_
  | ((with_reducible show rLenQ _ _ _ _); first | refine a_lenT (by walk_at "hp") ?_ | refine a_lenL (by walk_at "hp") ?_)
  | with_reducible refine a_prsC ?_ | with_reducible refine a_prsN ?_ | with_reducible refine a_for ?_ | with_reducible refine a_dput ?_ | with_reducible refine w_keys ?_ | with_reducible refine w_listT ?_
  | with_reducible refine QB.a_rU ?_ | with_reducible refine QB.a_cKw ?_ | with_reducible refine QB.a_star ?_ | with_reducible refine QB.a_dget2 ?_
  | with_reducible refine QB.a_par ?_ | with_reducible refine QB.a_par3 ?_
  | with_reducible refine QB.a_srt ?_
  | with_reducible refine QB.a_dc ?_
  | with_reducible refine iteT ?_ | with_reducible refine iteNT ?_ | with_reducible refine iteNF ?_ | with_reducible refine iteF ?_ | with_reducible refine a_prop ?_)
local macro_rules | `(tactic| walk_at "aa") => `(tactic| (walk_at "a"; repeat walk_at "a"))

variable {P : Program} {w : World} {K : PySem.W.Frag} {mg : Str → Option Value} {base : Heap} {CN CC : Addr}
/-- a field of a change -/
theorem f_chg (T : Tx P w K mg base CN CC) {H : Hp} {c dx : Addr} {f : Str} {fs : List (Str × V)} {v : V} {Q : VK} (h : H c = some (.ins CC dx fs)) (n : NoAttr K CC f) (l : fs.lookup f = some v) (q : Q v H) : tFld K (fun _ H Q => Q (.ref c) H) f [] H Q := a_fld h T.chg n l q
theorem ints_dp {K : PySem.W.Frag} {H : Hp} {a : Addr} {ns : List Int} (h : H a = some (.lst (ns.map V.int))) : Dp K H (.ref a) (.list (ns.map PyData.int)) := .lst (SqL.of h) (dp_ints ns)
theorem lay_ints : ∀ ns : List Int, PyData.canLayAll0 (ns.map PyData.int) = true
  | [] => rfl
  | n :: ns => by
    show (true && PyData.canLayAll0 (ns.map PyData.int)) = true
    rw [lay_ints ns] <;> rfl
theorem depth0_ints : ∀ ns : List Int, PyData.depthAll (ns.map PyData.int) = 0
  | [] => rfl
  | n :: ns => by simp [PyData.depthAll, PyData.depth, depth0_ints ns]
theorem shaped_ints (ns : List Int) : SeqAt.shaped (.list (ns.map PyData.int)) = true := by
  simp [SeqAt.shaped, PyData.canLay0, PyData.depth, lay_ints ns, depth0_ints]
theorem eqv_nil (ns : List Int) : PyData.eqv (.list (ns.map PyData.int)) (.list []) = decide (ns = []) := by
  cases ns with
  | nil => rfl
  | cons n ns => rfl
/-- ns != [] -/
theorem a_neNil {K : PySem.W.Frag} {H : Hp} {Q : VK} {a b : Addr} {ns : List Int} (h : H a = some (.lst (ns.map V.int))) (hb : H b = some (.lst [])) (q : Q (.bl (!decide (ns = []))) H) : rNeD K (.ref a) (.ref b) H Q :=
  a_neD (ints_dp h) (.lst (SqL.of hb) .nil) (shaped_ints ns) rfl (by rw [eqv_nil]; exact q)
theorem a_minL {K : PySem.W.Frag} {H : Hp} {Q : VK} {a : Addr} {ns : List Int} (h : H a = some (.lst (ns.map V.int))) (ne : ns ≠ []) (q : ∀ m, m ∈ ns → (∀ y, y ∈ ns → m ≤ y) → Q (.int m) H) : rMin K [.ref a] H Q := ⟨a, ns, rfl, SqL.of h, List.length_pos_iff.mpr ne, q⟩
def spDetour (CN CC : Addr) : Sp := fun vs H Q _ => ∃ (c : Addr) (R : List Str) (ls : List Lnk) (l : Lnk) (x d : Str), vs = [.ref c, .str x, .str d] ∧ ChgAt CN CC H c R ls l ∧ LinksOk R ls ∧ l ∈ ls ∧ d ∈ R ∧ ∀ H', Same H H' → Q (oV ((lkOf ls l).O d x)) H'
/-- the sums of the ways over the link -/
noncomputable def wayL (W : QT.Lk Str) (d x : Str) (i : Nat) : List Int := match i with
  | 0 => []
  | 1 => (QT.oadd (W.P W.a x) W.th (W.P d W.b)).toList
  | _ => (QT.oadd (W.P W.a x) W.th (W.P d W.b)).toList ++ (QT.oadd (W.P W.b x) W.bk (W.P d W.a)).toList
theorem way_min {W : QT.Lk Str} {d x : Str} {m : Int} (h : m ∈ wayL W d x 2) (hm : ∀ y ∈ wayL W d x 2, m ≤ y) : W.O d x = some m := by
  unfold QT.Lk.O
  unfold wayL at h hm
  cases e1 : QT.oadd (W.P W.a x) W.th (W.P d W.b) with
  | none =>
    cases e2 : QT.oadd (W.P W.b x) W.bk (W.P d W.a) with
    | none => rw [e1, e2] at h; cases h
    | some q =>
      rw [e1, e2] at h
      simp at h
      rw [h]; rfl
  | some p =>
    cases e2 : QT.oadd (W.P W.b x) W.bk (W.P d W.a) with
    | none =>
      rw [e1, e2] at h
      simp at h
      rw [h]; rfl
    | some q =>
      rw [e1, e2] at h hm
      simp at h hm
      show some (if p ≤ q then p else q) = some m
      congr 1
      split <;> omega
theorem way_none {W : QT.Lk Str} {d x : Str} (h : wayL W d x 2 = []) : W.O d x = none := by
  unfold QT.Lk.O
  unfold wayL at h
  cases e1 : QT.oadd (W.P W.a x) W.th (W.P d W.b) with
  | none =>
    cases e2 : QT.oadd (W.P W.b x) W.bk (W.P d W.a) with
    | none => rfl
    | some q => rw [e1, e2] at h; cases h
  | some p => rw [e1] at h; cases h
abbrev N_Change_detour : List Str := ["self", "router", "d", "found", "near", "length", "far"]
theorem sc_Change_detour : FnScope N_Change_detour ["self", "router", "d"] (defScope QH.s_Change_detour) := ⟨rfl, rfl, rfl, by decide +kernel, rfl, by decide +kernel, by decide +kernel⟩
theorem b_Change_detour (T : Tx P w K mg base CN CC) {f : Addr} {fd : FuncData} (F : Fun K "detour" "Change.detour" QH.s_Change_detour f fd) : FnOk P w K mg base CX0 1 f fd ["self", "router", "d"] (spDetour CN CC) := by
  refine F.ok sc_Change_detour (fun vs H Q E h => by obtain ⟨c, R, ls, l, x, d, rfl, _⟩ := h; rfl) (fun cdv A outer s H vs Q E hr h => ?_)
  have nd := sc_Change_detour.nd
  obtain ⟨c, R, ls, l, x, d, rfl, hc, ok2, hl, hd, k⟩ := h
  refine ⟨_, (pss_cons (ps_set (i := 3) nd rfl (by first | exact Or.inl rfl | exact Or.inr rfl) (pe_lst pa_nil))
    (pss_cons (ps_for PassesOwn.never rfl (ki_ptup (K := K) (ki_fld (K := K) (pv 0) rfl)) (ki_gtup (K := K) rfl (pgs_cons (pg_name (i := 4) nd rfl (by first | exact Or.inl rfl | exact Or.inr rfl)) (pgs_cons (pg_name (i := 5) nd rfl (by first | exact Or.inl rfl | exact Or.inr rfl)) (pgs_cons (pg_name (i := 6) nd rfl (by first | exact Or.inl rfl | exact Or.inr rfl)) pgs_nil)))) (pss_one (ps_if (PW.pt (pw_and (pt_cmp (pc_din (hu_of hr) (pv 1) (pe_dget (hu_of hr) (ki_fld (K := K) (pv 0) rfl) (pv 4) (fun _ _ => rfl)))) (pw_and1 (pt_cmp (pc_din (hu_of hr) (pv 6) (pe_dget (hu_of hr) (ki_fld (K := K) (pv 0) rfl) (pv 2) (fun _ _ => rfl))))))) (pss_one (ps_expr (pe_bm PySem.F.plainAttrs_list PySem.F.slot_list_append PySem.F.type_list_append mt_append (pv 3) (pa_cons (pe_callTy c_int (by rfl) T.f_int (by decide +kernel) (pa_cons (pe_op op_add (pe_op op_add (pe_dget (hu_of hr) (pe_dget (hu_of hr) (ki_fld (K := K) (pv 0) rfl) (pv 4) (fun _ _ => rfl)) (pv 1) (fun _ _ => rfl)) (pv 5)) (pe_dget (hu_of hr) (pe_dget (hu_of hr) (ki_fld (K := K) (pv 0) rfl) (pv 2) (fun _ _ => rfl)) (pv 6) (fun _ _ => rfl))) pa_nil)) pa_nil)))) pss_nil)))
    (pss_one (ps_ret (pe_ifExp (pt_cmpR (ki_neD (K := K) hr.units) (pv 3) (pe_lst pa_nil) (nomark _)) (pe_callB (ki_min (K := K) rfl) (by rfl) T.f_min (by decide +kernel) (pa_cons (pv 3) pa_nil)) pe_non))))), ?_⟩
  have ol := ok2.each l hl
  walk_at "aa"
  refine ⟨by show 0 ≤ sizeLine; decide, fun pw nw => ?_⟩
  have s1 := same_new (o := .lst []) nw
  obtain ⟨dx, n, pr, m, pl, ov, o1, o2, h1, h2, h3, h4, h5, h6, h7, h8⟩ := hc.at_
  walk_at "aa"
  refine ⟨c, CC, dx, _, _, rfl, s1 _ _ h1, T.chg, T.ch_over, cf6, ?_⟩
  refine ⟨ov, rfl, ⟨_, SqT.of (s1 _ _ h6)⟩, ?_⟩
  refine for_go (F := H) (it_tup h6) (fun i σ H' => (Same H H' ∧ H' pw = some (.lst ((wayL (lkOf ls l) d x i).map V.int))) ∧ ∃ q4 q5 q6, σ = [some (.ref c), some (.str x), some (.str d), some (.ref pw), q4, q5, q6]) ⟨⟨s1, upd_same⟩, _, _, _, rfl⟩ (fun _ _ _ h => h.1.1) (fun _ _ _ _ s h => ⟨⟨h.1.1.trans s, s _ _ h.1.2⟩, h.2⟩) ?_ ?_
  · rintro i v σ H2 hi ⟨⟨sF, hw⟩, q4, q5, q6, rfl⟩ hv
    have step : ∃ (o : Addr) (near far : Str) (len : Int), v = .ref o ∧ H o = some (.tup [.str near, .int len, .str far]) ∧ near ∈ R ∧ wayL (lkOf ls l) d x (i + 1) = wayL (lkOf ls l) d x i ++ (QT.oadd ((lkOf ls l).P near x) len ((lkOf ls l).P d far)).toList := by
      match i, hi with
      | 0, _ => exact ⟨o1, l.a, l.b, l.th, by simpa using hv.symm, h7, ol.ra, by simp [wayL]; rfl⟩
      | 1, _ => exact ⟨o2, l.b, l.a, l.bk, by simpa using hv.symm, h8, ol.rb, by simp [wayL]; rfl⟩
    obtain ⟨o, near, far, len, rfl, ho, hnear, ew⟩ := step
    have wl : (wayL (lkOf ls l) d x i).length ≤ 2 := by
      match i with
      | 0 => simp [wayL]
      | 1 => simp only [wayL]; cases QT.oadd ((lkOf ls l).P (lkOf ls l).a x) (lkOf ls l).th ((lkOf ls l).P d (lkOf ls l).b) <;> simp
      | i + 2 => simp only [wayL]; cases QT.oadd ((lkOf ls l).P (lkOf ls l).a x) (lkOf ls l).th ((lkOf ls l).P d (lkOf ls l).b) <;> cases QT.oadd ((lkOf ls l).P (lkOf ls l).b x) (lkOf ls l).bk ((lkOf ls l).P d (lkOf ls l).a) <;> simp
    refine a_gtup (sF _ _ ho) rfl ?_
    obtain ⟨g, dg, gg⟩ := h5.same sF
    obtain ⟨qn, en, hqn⟩ := gg near hnear
    obtain ⟨qd, ed, hqd⟩ := gg d hd
    walk_at "aa"
    refine ⟨c, CC, dx, _, _, rfl, sF _ _ h1, T.chg, T.ch_plain, cf5, ?_⟩
    walk_at "aa"
    refine ⟨pl, _, rfl, dk_ds dg en, ?_⟩
    refine ⟨qn, _, rfl, dis_dg hqn, ?_⟩
    refine a_bl ?_
    have eP : (lkOf ls l).P near x = QT.dist (arcs (less ls l.a l.b)) near x := rfl
    have eD : (lkOf ls l).P d far = QT.dist (arcs (less ls l.a l.b)) d far := rfl
    rw [eP, eD] at ew
    have stay : wayL (lkOf ls l) d x (i + 1) = wayL (lkOf ls l) d x i → (Same H H2 ∧ H2 pw = some (.lst ((wayL (lkOf ls l) d x (i + 1)).map V.int))) := fun e => ⟨sF, by rw [e]; exact hw⟩
    cases hp : QT.dist (arcs (less ls l.a l.b)) near x with
    | none =>
      rw [hp] at ew
      refine iteF ?_
      refine iteF ?_
      walk_at "aa"
      exact ⟨stay (by rw [ew]; simp [QT.oadd]), _, _, _, rfl⟩
    | some p =>
      refine iteT ?_
      walk_at "aa"
      refine ⟨c, CC, dx, _, _, rfl, sF _ _ h1, T.chg, T.ch_plain, cf5, ?_⟩
      walk_at "aa"
      refine ⟨pl, _, rfl, dk_ds dg ed, ?_⟩
      refine ⟨qd, _, rfl, dis_dg hqd, ?_⟩
      refine a_bl ?_
      cases hq : QT.dist (arcs (less ls l.a l.b)) d far with
      | none =>
        rw [hp, hq] at ew
        refine iteF ?_
        walk_at "aa"
        exact ⟨stay (by rw [ew]; simp [QT.oadd]), _, _, _, rfl⟩
      | some q =>
        rw [hp, hq] at ew
        refine iteT ?_
        walk_at "aa"
        refine ⟨ty_lst hw, ?_⟩
        walk_at "aa"
        refine ⟨c, CC, dx, _, _, rfl, sF _ _ h1, T.chg, T.ch_plain, cf5, ?_⟩
        walk_at "aa"
        refine ⟨pl, _, rfl, dk_ds dg en, ?_⟩
        walk_at "aa"
        refine ⟨qn, _, rfl, dis_ds hqn hp, ?_⟩
        walk_at "aa"
        refine ⟨c, CC, dx, _, _, rfl, sF _ _ h1, T.chg, T.ch_plain, cf5, ?_⟩
        walk_at "aa"
        refine ⟨pl, _, rfl, dk_ds dg ed, ?_⟩
        walk_at "aa"
        refine ⟨qd, _, rfl, dis_ds hqd hq, ?_⟩
        walk_at "aa"
        refine a_app hw (by simp; omega) ?_
        refine ⟨⟨same_mut sF nw, ?_⟩, _, _, _, rfl⟩
        rw [upd_same, ew]
        simp [QT.oadd]
  · rintro σ H2 ⟨⟨sF, hw⟩, q4, q5, q6, rfl⟩
    walk_at "aa"
    refine ⟨by show 0 ≤ sizeLine; decide, fun te nte => ?_⟩
    have s3 := same_new (o := .lst []) nte
    have hw2 : H2 pw = some (.lst ((wayL (lkOf ls l) d x 2).map V.int)) := hw
    refine a_neNil (s3 _ _ hw2) upd_same ?_
    refine a_bl ?_
    refine iteDN (fun c => ?_) (fun c => ?_)
    · walk_at "aa"
      refine a_minL (s3 _ _ hw2) c fun mm hm hmin => ?_
      have := k _ (sF.trans s3)
      rw [way_min hm hmin] at this
      exact this
    · walk_at "aa"
      have := k _ (sF.trans s3)
      rw [way_none c] at this
      exact this
end QB
set_option Elab.async false
set_option linter.all false
set_option maxRecDepth 100000
set_option maxHeartbeats 4000000

namespace QB
open PySem PySem.Spec L2
open PyProof.Rows (envOfC)
open PySem.PyData (strOk)
open RZ (Ty4 rIsTy call_isTy pi_zipA iZipA ItzT for_zipT for_zipL)
open StX (tStar pa_star)
open QS (SrtR tSrt rSrtI rSrtS rSrtT)
local macro_rules | `(tactic| walk_at "hp") => `(tactic| first | assumption | exact upd_same | (refine sg (by assumption) ?_; walk_at "hp"))
local macro_rules | `(tactic| walk_at "a") => `(tactic| first
  | with_reducible refine a_seq ?_ | with_reducible refine a_asg ?_ | with_reducible refine a_drop ?_ | with_reducible refine a_ret ?_ | with_reducible refine a_retN ?_
  | with_reducible refine a_ifS ?_ | with_reducible refine a_next ?_ | with_reducible refine a_gname ?_ | with_reducible refine a_nx ?_ | with_reducible refine a_rt ?_ | with_reducible refine a_bk ?_ | with_reducible refine a_ct ?_
  | ((with_reducible show tVar _ _ _ _); refine a_var rfl ?_) | with_reducible refine a_c ?_ | with_reducible refine a_op ?_ | with_reducible refine a_un ?_ | with_reducible refine a_cb ?_ | with_reducible refine a_nil ?_ | with_reducible refine a_cons ?_
  | with_reducible refine a_call ?_ | with_reducible refine a_meth ?_ | with_reducible refine a_make ?_ | with_reducible refine a_test ?_ | with_reducible refine a_tTest ?_ | with_reducible refine a_tand ?_ | with_reducible refine a_tor ?_ | with_reducible refine a_tnot ?_
  | with_reducible refine a_and ?_ | with_reducible refine a_or ?_ | with_reducible refine a_not ?_ | with_reducible refine a_if ?_ | with_reducible refine a_ri0 ?_ | with_reducible refine a_tup ?_ | with_reducible refine a_lst ?_
  | with_reducible refine a_bl ?_ | with_reducible refine a_sfld ?_ | with_reducible refine a_exI ?_ | with_reducible refine a_exZ ?_ | with_reducible refine a_chain ?_ | with_reducible refine a_lc ?_ | with_reducible refine a_yes ?_ | with_reducible refine a_gcons ?_ | with_reducible refine a_gnil ?_ | with_reducible refine w_list ?_ | with_reducible refine w_tup ?_ | with_reducible refine w_str ?_ | with_reducible refine w_rng1 ?_ | with_reducible refine w_zip ?_ | with_reducible refine w_zipA ?_
  | with_reducible refine a_tFld ?_ | with_reducible refine a_dget ?_ | with_reducible refine a_din ?_ | with_reducible refine a_dnin ?_ | with_reducible refine a_sl ?_ | with_reducible refine a_slNone ?_ | with_reducible refine a_slSome ?_
  | with_reducible refine a_isN ?_ | with_reducible refine a_notN ?_ | with_reducible refine a_eqI ?_ | with_reducible refine a_neI ?_ | with_reducible refine a_eqZ ?_ | with_reducible refine a_neZ ?_ | with_reducible refine a_ltZ ?_ | with_reducible refine a_int ?_ | with_reducible refine a_intB ?_ | with_reducible refine a_abs ?_ | with_reducible refine a_max2 ?_ | with_reducible refine a_min2 ?_ | with_reducible refine a_bm ?_
  | ((with_reducible show rLenQ _ _ _ _); first | refine a_lenT (by walk_at "hp") ?_ | refine a_lenL (by walk_at "hp") ?_)
  | with_reducible refine a_prsC ?_ | with_reducible refine a_prsN ?_ | with_reducible refine a_for ?_ | with_reducible refine a_dput ?_ | with_reducible refine w_keys ?_ | with_reducible refine w_listT ?_
  | with_reducible refine QB.a_rU ?_ | with_reducible refine QB.a_cKw ?_ | with_reducible refine QB.a_star ?_ | with_reducible refine QB.a_dget2 ?_
  | with_reducible refine QB.a_par ?_ | with_reducible refine QB.a_par3 ?_
  | with_reducible refine QB.a_srt ?_
  | with_reducible refine QB.a_dc ?_
  | with_reducible refine iteT ?_ | with_reducible refine iteNT ?_ | with_reducible refine iteNF ?_ | with_reducible refine iteF ?_ | with_reducible refine a_prop ?_)
local macro_rules | `(tactic| walk_at "aa") => `(tactic| (walk_at "a"; repeat walk_at "a"))

variable {P : Program} {w : World} {K : PySem.W.Frag} {mg : Str → Option Value} {base : Heap} {CN CC : Addr}
section
variable {n pr ls m pl ov : V}
theorem cf0 {f : Str} (h : f ∉ [("own_net" : Str), "pair", "least", "lengths", "plain", "ways_over"]) : [(("own_net" : Str), n), ("pair", pr), ("least", ls), ("lengths", m), ("plain", pl), ("ways_over", ov)].lookup f = none := by
  simp only [List.mem_cons, List.not_mem_nil, or_false, not_or] at h
  obtain ⟨h1, h2, h3, h4, h5, h6⟩ := h
  simp only [List.lookup_cons, List.lookup_nil, beq_eq_false_iff_ne.mpr h1, beq_eq_false_iff_ne.mpr h2, beq_eq_false_iff_ne.mpr h3, beq_eq_false_iff_ne.mpr h4, beq_eq_false_iff_ne.mpr h5, beq_eq_false_iff_ne.mpr h6]
end
/-- a change's method is called -/
theorem m_chg {H : Hp} {c : Addr} {R : List Str} {ls : List Lnk} {l : Lnk} {f : Str} {S : Addr → List (Str × V) → Prop} (h : ChgAt CN CC H c R ls l) (nf : f ∉ [("own_net" : Str), "pair", "least", "lengths", "plain", "ways_over"]) : ∃ dx fs, H c = some (.ins CC dx fs) ∧ fs.lookup f = none := by
  obtain ⟨dx, n, pr, m, pl, ov, o1, o2, h1, _⟩ := h.at_
  exact ⟨dx, _, h1, cf0 nf⟩
def spPoint (CN CC : Addr) : Sp := fun vs H Q _ => ∃ (c : Addr) (R : List Str) (ls : List Lnk) (l : Lnk) (x d : Str), vs = [.ref c, .str x, .str d] ∧ ChgAt CN CC H c R ls l ∧ LinksOk R ls ∧ l ∈ ls ∧ d ∈ R ∧ ∀ H', Same H H' → Q (oV ((lkOf ls l).point d x)) H'
abbrev N_Change_point : List Str := ["self", "router", "d", "over"]
theorem sc_Change_point : FnScope N_Change_point ["self", "router", "d"] (defScope QH.s_Change_point) := ⟨rfl, rfl, rfl, by decide +kernel, rfl, by decide +kernel, by decide +kernel⟩
theorem b_Change_point (T : Tx P w K mg base CN CC) (M_Change_detour : MethOk P w K mg base CC "detour" ["self", "router", "d"] (spDetour CN CC) 1) {f : Addr} {fd : FuncData} (F : Fun K "point" "Change.point" QH.s_Change_point f fd) : FnOk P w K mg base CX0 2 f fd ["self", "router", "d"] (spPoint CN CC) := by
  refine F.ok sc_Change_point (fun vs H Q E h => by obtain ⟨c, R, ls, l, x, d, rfl, _⟩ := h; rfl) (fun cdv A outer s H vs Q E hr h => ?_)
  have nd := sc_Change_point.nd
  obtain ⟨c, R, ls, l, x, d, rfl, hc, ok2, hl, hd, k⟩ := h
  refine ⟨_, (pss_cons (ps_set (i := 3) nd rfl (by first | exact Or.inl rfl | exact Or.inr rfl) (pe_methD M_Change_detour (hr.mono (by decide)) (pv 0) (pa_cons (pv 1) (pa_cons (pv 2) pa_nil))))
    (pss_cons (ps_if (PW.pt (pw_or (pt_cmpR op_eq (pv 1) (pv 2) (nomark _)) (pw_or (pt_cmpR op_isN1 (pv 3) pe_non (nomark _)) (pw_or1 (pt_cmp (pc_dnotin (hu_of hr) (pv 1) (pe_dget (hu_of hr) (ki_fld (K := K) (pv 0) rfl) (pv 2) (fun _ _ => rfl)))))))) (pss_one (ps_ret pe_non)) pss_nil)
    (pss_one (ps_ret (pe_op op_sub (pe_dget (hu_of hr) (pe_dget (hu_of hr) (ki_fld (K := K) (pv 0) rfl) (pv 2) (fun _ _ => rfl)) (pv 1) (fun _ _ => rfl)) (pv 3)))))), ?_⟩
  obtain ⟨dx, n, pr, m, pl, ov, o1, o2, h1, h2, h3, h4, h5, h6, h7, h8⟩ := hc.at_
  walk_at "aa"
  refine ⟨c, dx, _, rfl, h1, cf0 (by decide +kernel), ?_⟩
  walk_at "aa"
  refine ⟨c, R, ls, l, x, d, rfl, hc, ok2, hl, hd, fun H1 s1 => ?_⟩
  have eP : (lkOf ls l).P d x = QT.dist (arcs (less ls l.a l.b)) d x := rfl
  have pt : (lkOf ls l).point d x = if x = d then none else match (lkOf ls l).P d x, (lkOf ls l).O d x with | some p, some o => some (p - o) | _, _ => none := rfl
  cases hO : (lkOf ls l).O d x with
  | none =>
    have e : (lkOf ls l).point d x = none := by
      rw [pt, hO]
      split
      · rfl
      · cases (lkOf ls l).P d x <;> rfl
    walk_at "aa"
    refine iteD (fun cx => ?_) (fun cx => ?_)
    · walk_at "aa"
      have := k H1 s1
      rwa [e] at this
    · walk_at "aa"
      refine iteY rfl ?_
      walk_at "aa"
      have := k H1 s1
      rwa [e] at this
  | some o =>
    walk_at "aa"
    refine iteD (fun cx => ?_) (fun cx => ?_)
    · have e : (lkOf ls l).point d x = none := by rw [pt, if_pos cx]
      walk_at "aa"
      have := k H1 s1
      rwa [e] at this
    · walk_at "aa"
      refine iteZ (fun h => nomatch h) ?_
      obtain ⟨g, dg, gg⟩ := h5.same s1
      obtain ⟨qd, ed, hqd⟩ := gg d hd
      walk_at "aa"
      refine ⟨c, CC, dx, _, _, rfl, s1 _ _ h1, T.chg, T.ch_plain, cf5, ?_⟩
      walk_at "aa"
      refine ⟨pl, _, rfl, dk_ds dg ed, ?_⟩
      refine ⟨qd, _, rfl, dis_dg hqd, ?_⟩
      refine a_bl ?_
      cases hP : QT.dist (arcs (less ls l.a l.b)) d x with
      | none =>
        have e : (lkOf ls l).point d x = none := by rw [pt, if_neg cx, eP, hP]
        refine iteT ?_
        walk_at "aa"
        have := k H1 s1
        rwa [e] at this
      | some p =>
        have e : (lkOf ls l).point d x = some (p - o) := by rw [pt, if_neg cx, eP, hP, hO]
        refine iteF ?_
        walk_at "aa"
        refine ⟨c, CC, dx, _, _, rfl, s1 _ _ h1, T.chg, T.ch_plain, cf5, ?_⟩
        walk_at "aa"
        refine ⟨pl, _, rfl, dk_ds dg ed, ?_⟩
        walk_at "aa"
        refine ⟨qd, _, rfl, dis_ds hqd hP, ?_⟩
        walk_at "aa"
        have := k H1 s1
        rwa [e] at this
def spTables (CN CC : Addr) : Sp := fun vs H Q _ => ∃ (c : Addr) (R : List Str) (ls : List Lnk) (l : Lnk) (t : Option Int), vs = [.ref c, oV t] ∧ ChgAt CN CC H c R ls l ∧ RoutersOk R ∧ LinksOk R ls ∧ l ∈ ls ∧ (lkOf ls l).Fit t ∧
  ∀ (p : Addr) (H' : Hp) (ms : List Lnk), Same H H' → LinksOk R ms → arcs ms = (lkOf ls l).at t → TabAt H' p R (fun x d => nxl (arcs ms) R d x) → Q (.ref p) H'
abbrev N_Change_tables : List Str := ["self", "t"]
theorem sc_Change_tables : FnScope N_Change_tables ["self", "t"] (defScope QH.s_Change_tables) := ⟨rfl, rfl, rfl, by decide +kernel, rfl, by decide +kernel, by decide +kernel⟩
theorem b_Change_tables (T : Tx P w K mg base CN CC) (D_shifted : DefOk P w K mg base "shifted" ["net", "a", "b", "t"] (spShifted CN) 8) (D_next_tables : DefOk P w K mg base "next_tables" ["net"] (spNextTables CN) 4)
    {f : Addr} {fd : FuncData} (F : Fun K "tables" "Change.tables" QH.s_Change_tables f fd) : FnOk P w K mg base CX0 9 f fd ["self", "t"] (spTables CN CC) := by
  refine F.ok sc_Change_tables (fun vs H Q E h => by obtain ⟨c, R, ls, l, t, rfl, _⟩ := h; rfl) (fun cdv A outer s H vs Q E hr h => ?_)
  have nd := sc_Change_tables.nd
  obtain ⟨c, R, ls, l, t, rfl, hc, ok1, ok2, hl, ft, k⟩ := h
  refine ⟨_, (pss_one (ps_ret (pe_callD D_next_tables (hr.mono (by decide)) (by rfl) (pa_cons (pe_callD D_shifted (hr.mono (by decide)) (by rfl) (pa_cons (ki_fld (K := K) (pv 0) rfl) (pa_cons (pe_ix (ki_ixT (K := K)) (ki_fld (K := K) (pv 0) rfl) pe_int (fun _ _ => rfl)) (pa_cons (pe_ix (ki_ixT (K := K)) (ki_fld (K := K) (pv 0) rfl) pe_int (fun _ _ => rfl)) (pa_cons (pv 1) pa_nil))))) pa_nil)))), ?_⟩
  obtain ⟨dx, n, pr, m, pl, ov, o1, o2, h1, h2, h3, h4, h5, h6, h7, h8⟩ := hc.at_
  walk_at "aa"
  refine ⟨c, CC, dx, _, _, rfl, h1, T.chg, T.ch_net, cf1, ?_⟩
  walk_at "aa"
  refine ⟨c, CC, dx, _, _, rfl, h1, T.chg, T.ch_pair, cf2, ?_⟩
  walk_at "aa"
  refine a_ixT h3 rfl ?_
  walk_at "aa"
  refine ⟨c, CC, dx, _, _, rfl, h1, T.chg, T.ch_pair, cf2, ?_⟩
  walk_at "aa"
  refine a_ixT h3 rfl ?_
  walk_at "aa"
  refine ⟨n, R, ls, l, t, rfl, h2, ok1, ok2, hl, ft, fun mm H1 ms s1 hmm om e => ?_⟩
  walk_at "aa"
  exact ⟨mm, R, ms, rfl, hmm, ok1, om, fun p H2 s2 hp => k p H2 ms (s1.trans s2) om e hp⟩
def spIsShift (CN CC : Addr) : Sp := fun vs H Q _ => ∃ (c : Addr) (R : List Str) (ls : List Lnk) (l : Lnk) (t : Option Int), vs = [.ref c, oV t] ∧ ChgAt CN CC H c R ls l ∧ (lkOf ls l).Fit t ∧ Q (.bl true) H
abbrev N_is_shift : List Str := ["change", "t"]
theorem sc_is_shift : FnScope N_is_shift ["change", "t"] (defScope QH.s_is_shift) := ⟨rfl, rfl, rfl, by decide +kernel, rfl, by decide +kernel, by decide +kernel⟩
theorem D_is_shift (T : Tx P w K mg base CN CC) (F : FunAt K mg "is_shift" QH.s_is_shift) (D_is_integer : DefOk P w K mg base "is_integer" ["value"] spIsInteger 1) : DefOk P w K mg base "is_shift" ["change", "t"] (spIsShift CN CC) 2 := by
  refine mk_def F sc_is_shift (fun _ _ _ _ _ _ us hl => match us, hl with | [_, _], _ => rfl) (fun vs H Q E h => by obtain ⟨c, R, ls, l, t, rfl, _⟩ := h; rfl) (fun f cdv A outer s H vs Q E hr h => ?_)
  have nd := sc_is_shift.nd
  obtain ⟨c, R, ls, l, t, rfl, hc, ft, k⟩ := h
  refine ⟨_, (pss_one (ps_ret (pe_or (pe_cmpR op_isN1 (pv 1) pe_non (nomark _)) (pe_one (pe_and (pe_callD D_is_integer (hr.mono (by decide)) (by rfl) (pa_cons (pv 1) pa_nil)) (pe_one (pe_cmpR op_ge (pv 1) (ki_fld (K := K) (pv 0) rfl) (nomark _)))))))), ?_⟩
  obtain ⟨dx, n, pr, m, pl, ov, o1, o2, h1, h2, h3, h4, h5, h6, h7, h8⟩ := hc.at_
  cases t with
  | none =>
    walk_at "aa"
    refine iteY rfl ?_
    exact k
  | some t =>
    have ft : 1 ≤ l.th + t ∧ 1 ≤ l.bk + t := ft
    walk_at "aa"
    refine iteZ (fun h => nomatch h) ?_
    walk_at "aa"
    refine ⟨t, rfl, ?_⟩
    walk_at "aa"
    refine ⟨c, CC, dx, _, _, rfl, h1, T.chg, T.ch_least, cf3, ?_⟩
    walk_at "aa"
    have e : leastOf l ≤ t := by
      unfold leastOf
      split <;> omega
    simp only [ge_iff_le, e, decide_true]
    exact k
end QB
set_option Elab.async false
set_option linter.all false
set_option maxRecDepth 100000
set_option maxHeartbeats 4000000

namespace QB
open PySem PySem.Spec L2
open PyProof.Rows (envOfC)
open PySem.PyData (strOk)
open RZ (Ty4 rIsTy call_isTy pi_zipA iZipA ItzT for_zipT for_zipL)
open StX (tStar pa_star)
open QS (SrtR tSrt rSrtI rSrtS rSrtT)
local macro_rules | `(tactic| walk_at "hp") => `(tactic| first | assumption | exact upd_same | (refine sg (by assumption) ?_; walk_at "hp"))
local macro_rules | `(tactic| walk_at "a") => `(tactic| first
  | with_reducible refine a_seq ?_ | with_reducible refine a_asg ?_ | with_reducible refine a_drop ?_ | with_reducible refine a_ret ?_ | with_reducible refine a_retN ?_
  | with_reducible refine a_ifS ?_ | with_reducible refine a_next ?_ | with_reducible refine a_gname ?_ | with_reducible refine a_nx ?_ | with_reducible refine a_rt ?_ | with_reducible refine a_bk ?_ | with_reducible refine a_ct ?_
  | ((with_reducible show tVar _ _ _ _); refine a_var rfl ?_) | with_reducible refine a_c ?_ | with_reducible refine a_op ?_ | with_reducible refine a_un ?_ | with_reducible refine a_cb ?_ | with_reducible refine a_nil ?_ | with_reducible refine a_cons ?_
  | with_reducible refine a_call ?_ | with_reducible refine a_meth ?_ | with_reducible refine a_make ?_ | with_reducible refine a_test ?_ | with_reducible refine a_tTest ?_ | with_reducible refine a_tand ?_ | with_reducible refine a_tor ?_ | with_reducible refine a_tnot ?_
  | with_reducible refine a_and ?_ | with_reducible refine a_or ?_ | with_reducible refine a_not ?_ | with_reducible refine a_if ?_ | with_reducible refine a_ri0 ?_ | with_reducible refine a_tup ?_ | with_reducible refine a_lst ?_
  | with_reducible refine a_bl ?_ | with_reducible refine a_sfld ?_ | with_reducible refine a_exI ?_ | with_reducible refine a_exZ ?_ | with_reducible refine a_chain ?_ | with_reducible refine a_lc ?_ | with_reducible refine a_yes ?_ | with_reducible refine a_gcons ?_ | with_reducible refine a_gnil ?_ | with_reducible refine w_list ?_ | with_reducible refine w_tup ?_ | with_reducible refine w_str ?_ | with_reducible refine w_rng1 ?_ | with_reducible refine w_zip ?_ | with_reducible refine w_zipA ?_
  | with_reducible refine a_tFld ?_ | with_reducible refine a_dget ?_ | with_reducible refine a_din ?_ | with_reducible refine a_dnin ?_ | with_reducible refine a_sl ?_ | with_reducible refine a_slNone ?_ | with_reducible refine a_slSome ?_
  | with_reducible refine a_isN ?_ | with_reducible refine a_notN ?_ | with_reducible refine a_eqI ?_ | with_reducible refine a_neI ?_ | with_reducible refine a_eqZ ?_ | with_reducible refine a_neZ ?_ | with_reducible refine a_ltZ ?_ | with_reducible refine a_int ?_ | with_reducible refine a_intB ?_ | with_reducible refine a_abs ?_ | with_reducible refine a_max2 ?_ | with_reducible refine a_min2 ?_ | with_reducible refine a_bm ?_
  | ((with_reducible show rLenQ _ _ _ _); first | refine a_lenT (by walk_at "hp") ?_ | refine a_lenL (by walk_at "hp") ?_)
  | with_reducible refine a_prsC ?_ | with_reducible refine a_prsN ?_ | with_reducible refine a_for ?_ | with_reducible refine a_dput ?_ | with_reducible refine w_keys ?_ | with_reducible refine w_listT ?_
  | with_reducible refine QB.a_rU ?_ | with_reducible refine QB.a_cKw ?_ | with_reducible refine QB.a_star ?_ | with_reducible refine QB.a_dget2 ?_
  | with_reducible refine QB.a_par ?_ | with_reducible refine QB.a_par3 ?_
  | with_reducible refine QB.a_srt ?_
  | with_reducible refine QB.a_dc ?_
  | with_reducible refine iteT ?_ | with_reducible refine iteNT ?_ | with_reducible refine iteNF ?_ | with_reducible refine iteF ?_ | with_reducible refine a_prop ?_)
local macro_rules | `(tactic| walk_at "aa") => `(tactic| (walk_at "a"; repeat walk_at "a"))

variable {P : Program} {w : World} {K : PySem.W.Frag} {mg : Str → Option Value} {base : Heap} {CN CC : Addr}
theorem a_maxL {K : PySem.W.Frag} {H : Hp} {Q : VK} {a : Addr} {ns : List Int} (h : H a = some (.lst (ns.map V.int))) (ne : ns ≠ []) (q : ∀ m, Q (.int m) H) : rMax K [.ref a] H Q := ⟨a, ns, rfl, SqL.of h, List.length_pos_iff.mpr ne, fun m _ _ => q m⟩
theorem plain_any {σ : L2.St} {H : Hp} {S : VK} {q : Addr} {R : List Str} {D : Str → Option Int} {x n : Str} {len : Int} (hq : DisAt H q R D) (e1 : σ[1]? = some (some (.str x))) (e2 : σ[2]? = some (some (.str n))) (e6 : σ[6]? = some (some (.int len))) (e7 : σ[7]? = some (some (.ref q))) (h : ∀ b : Bool, S (.bl b) H) :
    tAndV (tDIn (tVar 1) (tVar 7)) (tAndV (tDIn (tVar 2) (tVar 7)) (tOp rEq (tDGet (tVar 7) (tVar 1)) (tOp (rI0 fun i j => V.int (i + j)) (tVar 6) (tDGet (tVar 7) (tVar 2))))) σ H S := by
  refine a_and (a_din (a_var e1 (a_var e7 ⟨q, _, rfl, dis_dg hq, ?_⟩)))
  refine a_bl ?_
  cases h1 : D x with
  | none => exact iteF (h false)
  | some p =>
    refine iteT ?_
    refine a_and (a_din (a_var e2 (a_var e7 ⟨q, _, rfl, dis_dg hq, ?_⟩)))
    refine a_bl ?_
    cases h2 : D n with
    | none => exact iteF (h false)
    | some r =>
      refine iteT ?_
      refine a_op (a_dget (a_var e7 (a_var e1 ⟨q, _, rfl, dis_ds hq h1, ?_⟩)))
      refine a_op (a_var e6 (a_dget (a_var e7 (a_var e2 ⟨q, _, rfl, dis_ds hq h2, ?_⟩))))
      exact a_ri0 (a_eqI (h _))
theorem over_any {σ : L2.St} {H : Hp} {S : VK} {len : Int} {o1 o2 : Option Int} (e6 : σ[6]? = some (some (.int len))) (e8 : σ[8]? = some (some (oV o1))) (e9 : σ[9]? = some (some (oV o2))) (h : ∀ b : Bool, S (.bl b) H) :
    tAndV (tOp rNotN (tVar 8) (tC .non)) (tAndV (tOp rNotN (tVar 9) (tC .non)) (tOp rEq (tVar 8) (tOp (rI0 fun i j => V.int (i + j)) (tVar 6) (tVar 9)))) σ H S := by
  refine a_and (a_op (a_var e8 (a_c (a_notN ?_))))
  refine a_bl ?_
  cases o1 with
  | none => exact iteF (h false)
  | some i =>
    refine iteT ?_
    refine a_and (a_op (a_var e9 (a_c (a_notN ?_))))
    refine a_bl ?_
    cases o2 with
    | none => exact iteF (h false)
    | some j =>
      refine iteT ?_
      refine a_op (a_var e8 (a_op (a_var e6 (a_var e9 ?_))))
      exact a_ri0 (a_eqI (h _))
theorem or_any {σ : L2.St} {H : Hp} {S : VK} {i j : Nat} {a b : Bool} (e1 : σ[i]? = some (some (.bl a))) (e2 : σ[j]? = some (some (.bl b))) (h : S (.bl (a || b)) H) : tOrV (tVar i) (tVar j) σ H S := by
  refine a_or (a_var e1 ?_)
  refine a_bl ?_
  cases a with
  | true => exact iteT h
  | false => exact iteF (a_var e2 h)
def spStands (CN CC : Addr) : Sp := fun vs H Q _ => ∃ (c : Addr) (R : List Str) (ls : List Lnk) (l : Lnk) (x n d : Str) (len : Int), vs = [.ref c, .str x, .str n, .str d] ∧ ChgAt CN CC H c R ls l ∧ LinksOk R ls ∧ l ∈ ls ∧ d ∈ R ∧ arcs (less ls l.a l.b) x n = some len ∧
  ∀ (H' : Hp) (t : Addr) (g b : Bool), Same H H' → H' t = some (.tup [.bl g, .bl b]) → (g ≠ b → ((lkOf ls l).O d x).isSome = true ∧ ((lkOf ls l).P d x).isSome = true) → Q (.ref t) H'
abbrev N_Change_stands : List Str := ["self", "router", "n", "d", "is_plain", "is_over", "length", "plain", "over", "more"]
theorem sc_Change_stands : FnScope N_Change_stands ["self", "router", "n", "d"] (defScope QH.s_Change_stands) := ⟨rfl, rfl, rfl, by decide +kernel, rfl, by decide +kernel, by decide +kernel⟩
theorem b_Change_stands (T : Tx P w K mg base CN CC) (M_Change_detour : MethOk P w K mg base CC "detour" ["self", "router", "d"] (spDetour CN CC) 1) {f : Addr} {fd : FuncData} (F : Fun K "stands" "Change.stands" QH.s_Change_stands f fd) : FnOk P w K mg base CX0 2 f fd ["self", "router", "n", "d"] (spStands CN CC) := by
  refine F.ok sc_Change_stands (fun vs H Q E h => by obtain ⟨c, R, ls, l, x, n, d, len, rfl, _⟩ := h; rfl) (fun cdv A outer s H vs Q E hr h => ?_)
  have nd := sc_Change_stands.nd
  obtain ⟨c, R, ls, l, x, n, d, len, rfl, hc, ok2, hl, hd, ha, k⟩ := h
  refine ⟨_, (pss_cons (ps_par (i := 6) (j := 7) (by rfl) nd rfl rfl (by decide) rfl rfl (pa_cons (pe_dget (hu_of hr) (ki_fld (K := K) (pv 0) rfl) (pe_tup (pa_cons (pv 1) (pa_cons (pv 2) pa_nil))) (fun _ _ => rfl)) (pa_cons (pe_dget (hu_of hr) (ki_fld (K := K) (pv 0) rfl) (pv 3) (fun _ _ => rfl)) pa_nil)) (by rfl))
    (pss_cons (ps_set (i := 4) nd rfl (by first | exact Or.inl rfl | exact Or.inr rfl) (pe_and (pe_cmp (pc_din (hu_of hr) (pv 1) (pv 7))) (pe_and (pe_cmp (pc_din (hu_of hr) (pv 2) (pv 7))) (pe_one (pe_cmpR op_eq (pe_dget (hu_of hr) (pv 7) (pv 1) (fun _ _ => rfl)) (pe_op op_add (pv 6) (pe_dget (hu_of hr) (pv 7) (pv 2) (fun _ _ => rfl))) (nomark _))))))
    (pss_cons (ps_par (i := 8) (j := 9) (by rfl) nd rfl rfl (by decide) rfl rfl (pa_cons (pe_methD M_Change_detour (hr.mono (by decide)) (pv 0) (pa_cons (pv 1) (pa_cons (pv 3) pa_nil))) (pa_cons (pe_methD M_Change_detour (hr.mono (by decide)) (pv 0) (pa_cons (pv 2) (pa_cons (pv 3) pa_nil))) pa_nil)) (by rfl))
    (pss_cons (ps_set (i := 5) nd rfl (by first | exact Or.inl rfl | exact Or.inr rfl) (pe_and (pe_cmpR op_notN1 (pv 8) pe_non (nomark _)) (pe_and (pe_cmpR op_notN1 (pv 9) pe_non (nomark _)) (pe_one (pe_cmpR op_eq (pv 8) (pe_op op_add (pv 6) (pv 9)) (nomark _))))))
    (pss_cons (ps_if (PW.pt (pw_or (pt_cmpR op_isN1 (pv 8) pe_non (nomark _)) (pw_or1 (pt_cmp (pc_dnotin (hu_of hr) (pv 1) (pv 7)))))) (pss_one (ps_ret (pe_tup (pa_cons (pe_or (pv 4) (pe_one (pv 5))) (pa_cons (pe_or (pv 4) (pe_one (pv 5))) pa_nil))))) pss_nil)
    (pss_one (ps_ret (pe_tup (pa_cons (pv 4) (pa_cons (pv 5) pa_nil)))))))))), ?_⟩
  obtain ⟨dx, nn, pr, m, pl, ov, o1, o2, h1, h2, h3, h4, h5, h6, h7, h8⟩ := hc.at_
  have eP : (lkOf ls l).P d x = QT.dist (arcs (less ls l.a l.b)) d x := rfl
  walk_at "aa"
  refine ⟨c, CC, dx, _, _, rfl, h1, T.chg, T.ch_lengths, cf4, ?_⟩
  walk_at "aa"
  refine ⟨by show 2 ≤ sizeLine; decide, fun a1 n1 => ?_⟩
  have s1 := same_new (o := .tup [.str x, .str n]) n1
  refine ⟨m, _, rfl, len_ds (.inl (s1 _ _ h4)) upd_same ha, ?_⟩
  walk_at "aa"
  refine ⟨c, CC, dx, _, _, rfl, s1 _ _ h1, T.chg, T.ch_plain, cf5, ?_⟩
  obtain ⟨g, dg, gg⟩ := h5.same s1
  obtain ⟨qd, ed, hqd⟩ := gg d hd
  walk_at "aa"
  refine ⟨pl, _, rfl, dk_ds dg ed, ?_⟩
  walk_at "aa"
  refine ⟨_, _, rfl, ?_⟩
  generalize upd H a1 (.tup [.str x, .str n]) = H1 at *
  walk_at "a"
  walk_at "a"
  refine plain_any hqd rfl rfl rfl rfl fun gp => ?_
  have hc1 := hc.same s1
  obtain ⟨dxm, fsm, hm1, hm2⟩ := m_chg (f := "detour") (S := fun _ _ => True) hc1 (by decide +kernel)
  walk_at "aa"
  refine ⟨c, dxm, _, rfl, hm1, hm2, ?_⟩
  walk_at "aa"
  refine ⟨c, R, ls, l, x, d, rfl, hc1, ok2, hl, hd, fun H2 s2 => ?_⟩
  walk_at "aa"
  refine ⟨c, dxm, _, rfl, s2 _ _ hm1, hm2, ?_⟩
  walk_at "aa"
  refine ⟨c, R, ls, l, n, d, rfl, hc1.same s2, ok2, hl, hd, fun H3 s3 => ?_⟩
  walk_at "aa"
  refine ⟨_, _, rfl, ?_⟩
  walk_at "a"
  walk_at "a"
  refine over_any (o1 := (lkOf ls l).O d x) (o2 := (lkOf ls l).O d n) rfl rfl rfl fun gb => ?_
  have s13 := s1.trans (s2.trans s3)
  have hqd3 := hqd.same (s2.trans s3)
  have same : ∀ {S : VK}, (∀ t H', Same H3 H' → H' t = some (.tup [.bl (gp || gb), .bl (gp || gb)]) → S (.ref t) H') → tTup (tCons (tOrV (tVar 4) (tVar 5)) (tCons (tOrV (tVar 4) (tVar 5)) tNil)) [some (.ref c), some (.str x), some (.str n), some (.str d), some (.bl gp), some (.bl gb), some (.int len), some (.ref qd), some (oV ((lkOf ls l).O d x)), some (oV ((lkOf ls l).O d n))] H3 S := fun h => by
    refine a_tup (a_cons (or_any rfl rfl (a_cons (or_any rfl rfl (a_nil ⟨by show 2 ≤ sizeLine; decide, fun t nt => h t _ (same_new nt) upd_same⟩)))))
  cases hO : (lkOf ls l).O d x with
  | none =>
    rw [hO] at same
    walk_at "aa"
    refine iteY rfl ?_
    refine a_ret (same fun t H4 s4 h4 => ?_)
    exact k H4 t _ _ (s13.trans s4) h4 fun h => absurd rfl h
  | some o =>
    rw [hO] at same
    walk_at "aa"
    refine iteZ (fun h => nomatch h) ?_
    walk_at "aa"
    refine ⟨qd, _, rfl, dis_dg hqd3, ?_⟩
    refine a_bl ?_
    cases hP : QT.dist (arcs (less ls l.a l.b)) d x with
    | none =>
      refine iteT ?_
      refine a_ret (same fun t H4 s4 h4 => ?_)
      exact k H4 t _ _ (s13.trans s4) h4 fun h => absurd rfl h
    | some p =>
      refine iteF ?_
      walk_at "aa"
      refine ⟨by show 2 ≤ sizeLine; decide, fun t nt => ?_⟩
      have s4 := same_new (o := .tup [.bl gp, .bl gb]) nt
      exact k _ t gp gb (s13.trans s4) upd_same fun _ => ⟨by rw [hO]; rfl, by rw [eP, hP]; rfl⟩
end QB
set_option Elab.async false
set_option linter.all false
set_option maxRecDepth 100000
set_option maxHeartbeats 4000000

namespace QB
open PySem PySem.Spec L2
open PyProof.Rows (envOfC)
open PySem.PyData (strOk)
open RZ (Ty4 rIsTy call_isTy pi_zipA iZipA ItzT for_zipT for_zipL)
open StX (tStar pa_star)
open QS (SrtR tSrt rSrtI rSrtS rSrtT)
local macro_rules | `(tactic| walk_at "hp") => `(tactic| first | assumption | exact upd_same | (refine sg (by assumption) ?_; walk_at "hp"))
local macro_rules | `(tactic| walk_at "a") => `(tactic| first
  | with_reducible refine a_seq ?_ | with_reducible refine a_asg ?_ | with_reducible refine a_drop ?_ | with_reducible refine a_ret ?_ | with_reducible refine a_retN ?_
  | with_reducible refine a_ifS ?_ | with_reducible refine a_next ?_ | with_reducible refine a_gname ?_ | with_reducible refine a_nx ?_ | with_reducible refine a_rt ?_ | with_reducible refine a_bk ?_ | with_reducible refine a_ct ?_
  | ((with_reducible show tVar _ _ _ _); refine a_var rfl ?_) | with_reducible refine a_c ?_ | with_reducible refine a_op ?_ | with_reducible refine a_un ?_ | with_reducible refine a_cb ?_ | with_reducible refine a_nil ?_ | with_reducible refine a_cons ?_
  | with_reducible refine a_call ?_ | with_reducible refine a_meth ?_ | with_reducible refine a_make ?_ | with_reducible refine a_test ?_ | with_reducible refine a_tTest ?_ | with_reducible refine a_tand ?_ | with_reducible refine a_tor ?_ | with_reducible refine a_tnot ?_
  | with_reducible refine a_and ?_ | with_reducible refine a_or ?_ | with_reducible refine a_not ?_ | with_reducible refine a_if ?_ | with_reducible refine a_ri0 ?_ | with_reducible refine a_tup ?_ | with_reducible refine a_lst ?_
  | with_reducible refine a_bl ?_ | with_reducible refine a_sfld ?_ | with_reducible refine a_exI ?_ | with_reducible refine a_exZ ?_ | with_reducible refine a_chain ?_ | with_reducible refine a_lc ?_ | with_reducible refine a_yes ?_ | with_reducible refine a_gcons ?_ | with_reducible refine a_gnil ?_ | with_reducible refine w_list ?_ | with_reducible refine w_tup ?_ | with_reducible refine w_str ?_ | with_reducible refine w_rng1 ?_ | with_reducible refine w_zip ?_ | with_reducible refine w_zipA ?_
  | with_reducible refine a_tFld ?_ | with_reducible refine a_dget ?_ | with_reducible refine a_din ?_ | with_reducible refine a_dnin ?_ | with_reducible refine a_sl ?_ | with_reducible refine a_slNone ?_ | with_reducible refine a_slSome ?_
  | with_reducible refine a_isN ?_ | with_reducible refine a_notN ?_ | with_reducible refine a_eqI ?_ | with_reducible refine a_neI ?_ | with_reducible refine a_eqZ ?_ | with_reducible refine a_neZ ?_ | with_reducible refine a_ltZ ?_ | with_reducible refine a_int ?_ | with_reducible refine a_intB ?_ | with_reducible refine a_abs ?_ | with_reducible refine a_max2 ?_ | with_reducible refine a_min2 ?_ | with_reducible refine a_bm ?_
  | ((with_reducible show rLenQ _ _ _ _); first | refine a_lenT (by walk_at "hp") ?_ | refine a_lenL (by walk_at "hp") ?_)
  | with_reducible refine a_prsC ?_ | with_reducible refine a_prsN ?_ | with_reducible refine a_for ?_ | with_reducible refine a_dput ?_ | with_reducible refine w_keys ?_ | with_reducible refine w_listT ?_
  | with_reducible refine QB.a_rU ?_ | with_reducible refine QB.a_cKw ?_ | with_reducible refine QB.a_star ?_ | with_reducible refine QB.a_dget2 ?_
  | with_reducible refine QB.a_par ?_ | with_reducible refine QB.a_par3 ?_
  | with_reducible refine QB.a_srt ?_
  | with_reducible refine QB.a_dc ?_
  | with_reducible refine iteT ?_ | with_reducible refine iteNT ?_ | with_reducible refine iteNF ?_ | with_reducible refine iteF ?_ | with_reducible refine a_prop ?_)
local macro_rules | `(tactic| walk_at "aa") => `(tactic| (walk_at "a"; repeat walk_at "a"))

variable {P : Program} {w : World} {K : PySem.W.Frag} {mg : Str → Option Value} {base : Heap} {CN CC : Addr}
def spStretch (CN CC : Addr) : Sp := fun vs H Q _ => ∃ (c tr : Addr) (R : List Str) (ls : List Lnk) (l : Lnk) (d : Str) (ring : List Str), vs = [.ref c, .str d, .ref tr] ∧ ChgAt CN CC H c R ls l ∧ LinksOk R ls ∧ l ∈ ls ∧ d ∈ R ∧ H tr = some (.tup (ring.map V.str)) ∧ RingOk R d ring ∧ ∀ (H' : Hp) (v : V), Same H H' → Q v H'
theorem point_is {W : QT.Lk Str} {d x : Str} (hd : x ≠ d) (h1 : (W.O d x).isSome = true) (h2 : (W.P d x).isSome = true) : ∃ i, W.point d x = some i := by
  obtain ⟨o, e1⟩ := Option.isSome_iff_exists.mp h1
  obtain ⟨p, e2⟩ := Option.isSome_iff_exists.mp h2
  exact ⟨p - o, QT.point_some hd e2 e1⟩
abbrev N_Change_stretch : List Str := ["self", "d", "ring", "lows", "highs", "router", "n", "at", "is_great", "is_little"]
theorem sc_Change_stretch : FnScope N_Change_stretch ["self", "d", "ring"] (defScope QH.s_Change_stretch) := ⟨rfl, rfl, rfl, by decide +kernel, rfl, by decide +kernel, by decide +kernel⟩
theorem b_Change_stretch (T : Tx P w K mg base CN CC) (M_Change_stands : MethOk P w K mg base CC "stands" ["self", "router", "n", "d"] (spStands CN CC) 2) (M_Change_point : MethOk P w K mg base CC "point" ["self", "router", "d"] (spPoint CN CC) 2)
    {f : Addr} {fd : FuncData} (F : Fun K "stretch" "Change.stretch" QH.s_Change_stretch f fd) : FnOk P w K mg base CX0 3 f fd ["self", "d", "ring"] (spStretch CN CC) := by
  refine F.ok sc_Change_stretch (fun vs H Q E h => by obtain ⟨c, tr, R, ls, l, d, ring, rfl, _⟩ := h; rfl) (fun cdv A outer s H vs Q E hr h => ?_)
  have nd := sc_Change_stretch.nd
  obtain ⟨c, tr, R, ls, l, d, ring, rfl, hc, ok2, hl, hd, htr, rok, k⟩ := h
  refine ⟨_, (pss_cons (ps_par (i := 3) (j := 4) (by rfl) nd rfl rfl (by decide) rfl rfl (pa_cons (pe_lst pa_nil) (pa_cons (pe_lst pa_nil) pa_nil)) (by rfl))
    (pss_cons (ps_for PassesOwn.never rfl (pi_zipT (by rfl) T.f_zip (pa_cons (pv 2) (pa_cons (pe_op (ki_catA (K := K)) (pe_slice (ki_slA (K := K)) (pv 2) (po_some pe_int) po_none) (pe_slice (ki_slA (K := K)) (pv 2) po_none (po_some pe_int))) pa_nil))) (ki_gtup (K := K) rfl (pgs_cons (pg_name (i := 5) nd rfl (by first | exact Or.inl rfl | exact Or.inr rfl)) (pgs_cons (pg_name (i := 6) nd rfl (by first | exact Or.inl rfl | exact Or.inr rfl)) pgs_nil))) (pss_cons (ps_if (pt_cmp (pc_dnotin (hu_of hr) (pe_tup (pa_cons (pv 5) (pa_cons (pv 6) pa_nil))) (ki_fld (K := K) (pv 0) rfl))) (pss_one (ps_ret pe_non)) pss_nil)
    (pss_cons (ps_asg (pe_methD M_Change_stands (hr.mono (by decide)) (pv 0) (pa_cons (pv 5) (pa_cons (pv 6) (pa_cons (pv 1) pa_nil)))) (ki_gtup (K := K) rfl (pgs_cons (pg_name (i := 8) nd rfl (by first | exact Or.inl rfl | exact Or.inr rfl)) (pgs_cons (pg_name (i := 9) nd rfl (by first | exact Or.inl rfl | exact Or.inr rfl)) pgs_nil))))
    (pss_cons (ps_set (i := 7) nd rfl (by first | exact Or.inl rfl | exact Or.inr rfl) (pe_methD M_Change_point (hr.mono (by decide)) (pv 0) (pa_cons (pv 5) (pa_cons (pv 1) pa_nil))))
    (pss_cons (ps_if (PW.pt (pw_and (pt_not (pt_val (pv 8))) (pw_and1 (PW.pt (pw_or (pt_not (pt_val (pv 9))) (pw_or1 (pt_cmpR op_lt (pv 7) (ki_fld (K := K) (pv 0) rfl) (nomark _)))))))) (pss_one (ps_ret pe_non)) pss_nil)
    (pss_cons (ps_if (PW.pt (pw_and (pt_val (pv 8)) (pw_and1 (pt_not (pt_val (pv 9)))))) (pss_one (ps_expr (pe_bm PySem.F.plainAttrs_list PySem.F.slot_list_append PySem.F.type_list_append mt_append (pv 4) (pa_cons (pe_callTy c_int (by rfl) T.f_int (by decide +kernel) (pa_cons (pv 7) pa_nil)) pa_nil)))) pss_nil)
    (pss_one (ps_if (PW.pt (pw_and (pt_val (pv 9)) (pw_and1 (pt_not (pt_val (pv 8)))))) (pss_one (ps_expr (pe_bm PySem.F.plainAttrs_list PySem.F.slot_list_append PySem.F.type_list_append mt_append (pv 3) (pa_cons (pe_callTy c_int (by rfl) T.f_int (by decide +kernel) (pa_cons (pv 7) pa_nil)) pa_nil)))) pss_nil))))))))
    (pss_one (ps_ret (pe_ifExp (PW.pt (pw_and (pt_cmpR (ki_neD (K := K) hr.units) (pv 3) (pe_lst pa_nil) (nomark _)) (pw_and1 (pt_cmpR (ki_neD (K := K) hr.units) (pv 4) (pe_lst pa_nil) (nomark _))))) (pe_tup (pa_cons (pe_callB (ki_min (K := K) rfl) (by rfl) T.f_min (by decide +kernel) (pa_cons (pv 3) pa_nil)) (pa_cons (pe_callB (ki_max (K := K) rfl) (by rfl) T.f_max (by decide +kernel) (pa_cons (pv 4) pa_nil)) pa_nil))) pe_non))))), ?_⟩
  obtain ⟨dx, nn, pr, m, pl, ov, o1, o2, h1, h2, h3, h4, h5, h6, h7, h8⟩ := hc.at_
  walk_at "aa"
  refine ⟨by show 0 ≤ sizeLine; decide, fun pa na => ?_⟩
  have s1 := same_new (o := .lst []) na
  walk_at "aa"
  refine ⟨by show 0 ≤ sizeLine; decide, fun pb nb => ?_⟩
  have s2 := same_new (o := .lst []) nb
  have ab : pb ≠ pa := by rintro rfl; rw [upd_same] at nb; cases nb
  have nb0 : H pb = none := by rw [upd_ne ab] at nb; exact nb
  walk_at "aa"
  refine ⟨_, _, rfl, ?_⟩
  have sA := s1.trans s2
  have e1 : upd (upd H pa (.lst [])) pb (.lst []) pa = some (.lst ([].map V.int)) := s2 _ _ upd_same
  have e2 : upd (upd H pa (.lst [])) pb (.lst []) pb = some (.lst ([].map V.int)) := upd_same
  generalize upd (upd H pa (.lst [])) pb (.lst []) = H0 at *
  obtain ⟨y1, ey1, hy1, ly1⟩ := cut_strs ring (some 1) none
  obtain ⟨y2, ey2, hy2, ly2⟩ := cut_strs ring none (some 1)
  walk_at "aa"
  refine a_slT (sA _ _ htr) fun p5 H5 s5 h5 => ?_
  rw [ey1] at h5
  walk_at "aa"
  refine a_slT (s5 _ _ (sA _ _ htr)) fun p6 H6 s6 h6 => ?_
  rw [ey2] at h6
  refine a_catA (s6 _ _ h5) h6 (by have := rok.len; simp; omega) fun p7 H7 s7 h7 => ?_
  have s57 := s5.trans (s6.trans s7)
  have htr7 := s57 _ _ (sA _ _ htr)
  have s07 := sA.trans s57
  rw [← List.map_append] at h7
  walk_at "aa"
  refine ⟨tr, p7, _, _, rfl, .inr ⟨SqT.of htr7, SqT.of h7, ?_⟩⟩
  have nt : ∀ q xs ys, H7 q = some (.lst ys) → H7 p7 = some (.tup xs) → p7 ≠ q := by rintro q xs ys g1 g2 rfl; rw [g1] at g2; cases g2
  have p7a : p7 ≠ pa := nt _ _ _ (s57 _ _ e1) h7
  have p7b : p7 ≠ pb := nt _ _ _ (s57 _ _ e2) h7
  have sD : Same H (drop pb (drop pa H7)) := fun b o e => by
    rw [drop_ne (ne_of_none e nb0), drop_ne (ne_of_none e na)]; exact s07 _ _ e
  have d7 : drop pb (drop pa H7) p7 = some (.tup ((y1 ++ y2).map V.str)) := by rw [drop_ne p7b, drop_ne p7a]; exact h7
  have na' : drop pb (drop pa H7) pa = none := by rw [drop_ne (Ne.symm ab), drop_same]
  have nb' : drop pb (drop pa H7) pb = none := drop_same
  refine for_go (F := drop pb (drop pa H7)) (it_zipT (sD _ _ htr) d7) (fun i σ H' => (Same (drop pb (drop pa H7)) H' ∧ ∃ lows highs : List Int, H' pa = some (.lst (lows.map V.int)) ∧ H' pb = some (.lst (highs.map V.int)) ∧ lows.length ≤ i ∧ highs.length ≤ i) ∧ ∃ q5 q6 q7 q8 q9, σ = [some (.ref c), some (.str d), some (.ref tr), some (.ref pa), some (.ref pb), q5, q6, q7, q8, q9])
    ⟨⟨drop_le.trans drop_le, [], [], s57 _ _ e1, s57 _ _ e2, Nat.le_refl _, Nat.le_refl _⟩, _, _, _, _, _, rfl⟩ (fun _ _ _ h => h.1.1) (fun _ _ _ _ s h => ⟨⟨h.1.1.trans s, by obtain ⟨lo, hi, q1, q2, q3, q4⟩ := h.1.2; exact ⟨lo, hi, s _ _ q1, s _ _ q2, q3, q4⟩⟩, h.2⟩) ?_ ?_
  · rintro i v σ H8 hi ⟨⟨sF, lows, highs, ha, hb, la, lb⟩, q5, q6, q7, q8, q9, rfl⟩ ⟨T', x', y', rfl, hT, hx, hy⟩
    rw [List.getElem?_map] at hx hy
    obtain ⟨x, ex, rfl⟩ := Option.map_eq_some_iff.mp hx
    obtain ⟨y, ey, rfl⟩ := Option.map_eq_some_iff.mp hy
    have hxr := rok.mem x (List.mem_of_getElem? ex)
    have i20 : i < 20 := by have := rok.len; simp at hi; omega
    have s08 := sD.trans sF
    refine a_gtup hT rfl ?_
    walk_at "aa"
    refine ⟨by show 2 ≤ sizeLine; decide, fun a9 n9 => ?_⟩
    have s9 := same_new (o := .tup [.str x, .str y]) n9
    walk_at "aa"
    refine ⟨c, CC, dx, _, _, rfl, s9 _ _ (s08 _ _ h1), T.chg, T.ch_lengths, cf4, ?_⟩
    refine ⟨m, _, rfl, len_dg (.inl (s9 _ _ (s08 _ _ h4))) upd_same, ?_⟩
    refine a_bl ?_
    have s09 := s08.trans s9
    cases hl2 : arcs (less ls l.a l.b) x y with
    | none =>
      refine iteT ?_
      walk_at "aa"
      exact k _ _ s09
    | some len =>
      refine iteF ?_
      have hc9 := hc.same s09
      obtain ⟨dxm, fsm, hm1, hm2⟩ := m_chg (f := "stands") (S := fun _ _ => True) hc9 (by decide +kernel)
      walk_at "aa"
      refine ⟨c, dxm, _, rfl, hm1, hm2, ?_⟩
      walk_at "aa"
      refine ⟨c, R, ls, l, x, y, d, len, rfl, hc9, ok2, hl, hd, hl2, fun H10 t10 g b s10 h10 gb => ?_⟩
      refine a_gtup h10 rfl ?_
      have hc10 := hc9.same s10
      obtain ⟨dxn, fsn, hn1, hn2⟩ := m_chg (f := "point") (S := fun _ _ => True) hc10 (by decide +kernel)
      walk_at "aa"
      refine ⟨c, dxn, _, rfl, hn1, hn2, ?_⟩
      walk_at "aa"
      refine ⟨c, R, ls, l, x, d, rfl, hc10, ok2, hl, hd, fun H11 s11 => ?_⟩
      have s0B := s09.trans (s10.trans s11)
      have sFB := sF.trans (s9.trans (s10.trans s11))
      have haB := (s9.trans (s10.trans s11)) _ _ ha
      have hbB := (s9.trans (s10.trans s11)) _ _ hb
      have go : ∃ q5 q6 q7 q8 q9, ([some (.ref c), some (.str d), some (.ref tr), some (.ref pa), some (.ref pb), some (.str x), some (.str y), some (oV ((lkOf ls l).point d x)), some (.bl g), some (.bl b)] : L2.St) = [some (.ref c), some (.str d), some (.ref tr), some (.ref pa), some (.ref pb), q5, q6, q7, q8, q9] := ⟨_, _, _, _, _, rfl⟩
      match g, b with
      | true, true =>
        walk_at "aa"
        exact ⟨⟨sFB, lows, highs, haB, hbB, by omega, by omega⟩, _, _, _, _, _, rfl⟩
      | false, false =>
        walk_at "aa"
        exact k _ _ s0B
      | true, false =>
        obtain ⟨pi, ep⟩ := point_is hxr.2 (gb (by decide)).1 (gb (by decide)).2
        rw [ep]
        walk_at "aa"
        refine ⟨ty_lst hbB, ?_⟩
        walk_at "aa"
        refine a_app hbB (by simp; omega) ?_
        have bb : upd H11 pb (.lst (highs.map V.int ++ [V.int pi])) pa = some (.lst (lows.map V.int)) := by rw [upd_ne (Ne.symm ab)]; exact haB
        walk_at "aa"
        exact ⟨⟨same_mut sFB nb', lows, highs ++ [pi], bb, by rw [upd_same]; simp, by omega, by simp; omega⟩, _, _, _, _, _, rfl⟩
      | false, true =>
        obtain ⟨pi, ep⟩ := point_is hxr.2 (gb (by decide)).1 (gb (by decide)).2
        rw [ep]
        walk_at "aa"
        refine ⟨c, CC, dx, _, _, rfl, s0B _ _ h1, T.chg, T.ch_least, cf3, ?_⟩
        walk_at "aa"
        refine iteD (fun cl => ?_) (fun cl => ?_)
        · walk_at "aa"
          exact k _ _ s0B
        · walk_at "aa"
          refine ⟨ty_lst haB, ?_⟩
          walk_at "aa"
          refine a_app haB (by simp; omega) ?_
          have bb : upd H11 pa (.lst (lows.map V.int ++ [V.int pi])) pb = some (.lst (highs.map V.int)) := by rw [upd_ne ab]; exact hbB
          exact ⟨⟨same_mut sFB na', lows ++ [pi], highs, by rw [upd_same]; simp, bb, by simp; omega, by omega⟩, _, _, _, _, _, rfl⟩
  · rintro σ H8 ⟨⟨sF, lows, highs, ha, hb, la, lb⟩, q5, q6, q7, q8, q9, rfl⟩
    have s08 := sD.trans sF
    walk_at "aa"
    refine ⟨by show 0 ≤ sizeLine; decide, fun te nte => ?_⟩
    have s3 := same_new (o := .lst []) nte
    refine a_neNil (s3 _ _ ha) upd_same ?_
    refine a_bl ?_
    refine iteDN (fun c1 => ?_) (fun c1 => ?_)
    rotate_left
    · refine iteF ?_
      walk_at "aa"
      exact k _ _ (s08.trans s3)
    walk_at "aa"
    refine ⟨by show 0 ≤ sizeLine; decide, fun te2 nte2 => ?_⟩
    have s4 := same_new (o := .lst []) nte2
    refine a_neNil (s4 _ _ (s3 _ _ hb)) upd_same ?_
    refine a_bl ?_
    refine iteDN (fun c2 => ?_) (fun c2 => ?_)
    rotate_left
    · walk_at "aa"
      exact k _ _ (s08.trans (s3.trans s4))
    walk_at "aa"
    refine a_minL (s4 _ _ (s3 _ _ ha)) c1 fun mm _ _ => ?_
    walk_at "aa"
    refine a_maxL (s4 _ _ (s3 _ _ hb)) c2 fun mx => ?_
    walk_at "aa"
    refine ⟨by show 2 ≤ sizeLine; decide, fun t5 n5 => ?_⟩
    exact k _ _ (s08.trans (s3.trans (s4.trans (same_new n5))))
end QB
set_option Elab.async false
set_option linter.all false
set_option maxRecDepth 100000
set_option maxHeartbeats 4000000

namespace QB
open PySem PySem.Spec L2
open PyProof.Rows (envOfC)
open PySem.PyData (strOk)
open RZ (Ty4 rIsTy call_isTy pi_zipA iZipA ItzT for_zipT for_zipL)
open StX (tStar pa_star)
open QS (SrtR tSrt rSrtI rSrtS rSrtT)
local macro_rules | `(tactic| walk_at "hp") => `(tactic| first | assumption | exact upd_same | (refine sg (by assumption) ?_; walk_at "hp"))
local macro_rules | `(tactic| walk_at "a") => `(tactic| first
  | with_reducible refine a_seq ?_ | with_reducible refine a_asg ?_ | with_reducible refine a_drop ?_ | with_reducible refine a_ret ?_ | with_reducible refine a_retN ?_
  | with_reducible refine a_ifS ?_ | with_reducible refine a_next ?_ | with_reducible refine a_gname ?_ | with_reducible refine a_nx ?_ | with_reducible refine a_rt ?_ | with_reducible refine a_bk ?_ | with_reducible refine a_ct ?_
  | ((with_reducible show tVar _ _ _ _); refine a_var rfl ?_) | with_reducible refine a_c ?_ | with_reducible refine a_op ?_ | with_reducible refine a_un ?_ | with_reducible refine a_cb ?_ | with_reducible refine a_nil ?_ | with_reducible refine a_cons ?_
  | with_reducible refine a_call ?_ | with_reducible refine a_meth ?_ | with_reducible refine a_make ?_ | with_reducible refine a_test ?_ | with_reducible refine a_tTest ?_ | with_reducible refine a_tand ?_ | with_reducible refine a_tor ?_ | with_reducible refine a_tnot ?_
  | with_reducible refine a_and ?_ | with_reducible refine a_or ?_ | with_reducible refine a_not ?_ | with_reducible refine a_if ?_ | with_reducible refine a_ri0 ?_ | with_reducible refine a_tup ?_ | with_reducible refine a_lst ?_
  | with_reducible refine a_bl ?_ | with_reducible refine a_sfld ?_ | with_reducible refine a_exI ?_ | with_reducible refine a_exZ ?_ | with_reducible refine a_chain ?_ | with_reducible refine a_lc ?_ | with_reducible refine a_yes ?_ | with_reducible refine a_gcons ?_ | with_reducible refine a_gnil ?_ | with_reducible refine w_list ?_ | with_reducible refine w_tup ?_ | with_reducible refine w_str ?_ | with_reducible refine w_rng1 ?_ | with_reducible refine w_zip ?_ | with_reducible refine w_zipA ?_
  | with_reducible refine a_tFld ?_ | with_reducible refine a_dget ?_ | with_reducible refine a_din ?_ | with_reducible refine a_dnin ?_ | with_reducible refine a_sl ?_ | with_reducible refine a_slNone ?_ | with_reducible refine a_slSome ?_
  | with_reducible refine a_isN ?_ | with_reducible refine a_notN ?_ | with_reducible refine a_eqI ?_ | with_reducible refine a_neI ?_ | with_reducible refine a_eqZ ?_ | with_reducible refine a_neZ ?_ | with_reducible refine a_ltZ ?_ | with_reducible refine a_int ?_ | with_reducible refine a_intB ?_ | with_reducible refine a_abs ?_ | with_reducible refine a_max2 ?_ | with_reducible refine a_min2 ?_ | with_reducible refine a_bm ?_
  | ((with_reducible show rLenQ _ _ _ _); first | refine a_lenT (by walk_at "hp") ?_ | refine a_lenL (by walk_at "hp") ?_)
  | with_reducible refine a_prsC ?_ | with_reducible refine a_prsN ?_ | with_reducible refine a_for ?_ | with_reducible refine a_dput ?_ | with_reducible refine w_keys ?_ | with_reducible refine w_listT ?_
  | with_reducible refine QB.a_rU ?_ | with_reducible refine QB.a_cKw ?_ | with_reducible refine QB.a_star ?_ | with_reducible refine QB.a_dget2 ?_
  | with_reducible refine QB.a_par ?_ | with_reducible refine QB.a_par3 ?_
  | with_reducible refine QB.a_srt ?_
  | with_reducible refine QB.a_dc ?_
  | with_reducible refine iteT ?_ | with_reducible refine iteNT ?_ | with_reducible refine iteNF ?_ | with_reducible refine iteF ?_ | with_reducible refine a_prop ?_)
local macro_rules | `(tactic| walk_at "aa") => `(tactic| (walk_at "a"; repeat walk_at "a"))

variable {P : Program} {w : World} {K : PySem.W.Frag} {mg : Str → Option Value} {base : Heap} {CN CC : Addr}
def spTurnsB (CN CC : Addr) : Sp := fun vs H Q _ => ∃ (c : Addr) (R : List Str) (ls : List Lnk) (l : Lnk) (s t : Option Int), vs = [.ref c, oV s, oV t] ∧ ChgAt CN CC H c R ls l ∧ RoutersOk R ∧ LinksOk R ls ∧ l ∈ ls ∧ (lkOf ls l).Fit s ∧ (lkOf ls l).Fit t ∧
  (∀ H', Same H H' → QT.AllQ (lkOf ls l) R s t → Q .non H') ∧
  ∀ (H' : Hp) (p tr tl : Addr) (d : Str) (ring : List Str), Same H H' → ¬ QT.AllQ (lkOf ls l) R s t → d ∈ R → H' p = some (.tup [.str d, .ref tr, .ref tl]) → H' tr = some (.tup (ring.map V.str)) → RingOk R d ring → Q (.ref p) H'
abbrev N_turns_between : List Str := ["change", "t", "other"]
theorem sc_turns_between : FnScope N_turns_between ["change", "t", "other"] (defScope QH.s_turns_between) := ⟨rfl, rfl, rfl, by decide +kernel, rfl, by decide +kernel, by decide +kernel⟩
theorem D_turns_between (T : Tx P w K mg base CN CC) (F : FunAt K mg "turns_between" QH.s_turns_between) (D_turns : DefOk P w K mg base "turns" ["routers", "tables", "others"] spTurns 3) (M_Change_tables : MethOk P w K mg base CC "tables" ["self", "t"] (spTables CN CC) 9) :
    DefOk P w K mg base "turns_between" ["change", "t", "other"] (spTurnsB CN CC) 10 := by
  refine mk_def F sc_turns_between (fun _ _ _ _ _ _ us hl => match us, hl with | [_, _, _], _ => rfl) (fun vs H Q E h => by obtain ⟨c, R, ls, l, s, t, rfl, _⟩ := h; rfl) (fun f cdv A outer s0 H vs Q E hr h => ?_)
  have nd := sc_turns_between.nd
  obtain ⟨c, R, ls, l, s, t, rfl, hc, ok1, ok2, hl, fs, ft, k1, k2⟩ := h
  refine ⟨_, (pss_one (ps_ret (pe_callD D_turns (hr.mono (by decide)) (by rfl) (pa_cons (pe_routers T.net (hr.mono (by decide)) (ki_fld (K := K) (pv 0) rfl) rfl) (pa_cons (pe_methD M_Change_tables (hr.mono (by decide)) (pv 0) (pa_cons (pv 1) pa_nil)) (pa_cons (pe_methD M_Change_tables (hr.mono (by decide)) (pv 0) (pa_cons (pv 2) pa_nil)) pa_nil)))))), ?_⟩
  obtain ⟨dx, n, pr, m, pl, ov, o1, o2, h1, h2, h3, h4, h5, h6, h7, h8⟩ := hc.at_
  obtain ⟨dxm, fsm, hm1, hm2⟩ := m_chg (f := "tables") (S := fun _ _ => True) hc (by decide +kernel)
  walk_at "aa"
  refine ⟨c, CC, dx, _, _, rfl, h1, T.chg, T.ch_net, cf1, ?_⟩
  refine n_routers h2 fun r hr => ?_
  walk_at "aa"
  refine ⟨c, dxm, _, rfl, hm1, hm2, ?_⟩
  walk_at "aa"
  refine ⟨c, R, ls, l, s, rfl, hc, ok1, ok2, hl, fs, fun p H1 ms s1 om em hp => ?_⟩
  walk_at "aa"
  refine ⟨c, dxm, _, rfl, s1 _ _ hm1, hm2, ?_⟩
  walk_at "aa"
  refine ⟨c, R, ls, l, t, rfl, hc.same s1, ok1, ok2, hl, ft, fun q H2 ks s2 ok em2 hq => ?_⟩
  walk_at "aa"
  have iff : AllQL R (fun x d => nxl (arcs ms) R d x) (fun x d => nxl (arcs ks) R d x) ↔ QT.AllQ (lkOf ls l) R s t := by
    rw [allQN_iff om ok]
    unfold AllQN QT.AllQ
    rw [em, em2]
  exact ⟨r, p, q, R, _, _, rfl, s2 _ _ (s1 _ _ hr), hp.same s2, hq, nxl_ok ok1 _, nxl_ok ok1 _, ok1, fun H3 s3 h => k1 H3 (s1.trans (s2.trans s3)) (iff.mp h), fun H3 pp tr tl d ring s3 h hd hpp htr rok => k2 H3 pp tr tl d ring (s1.trans (s2.trans s3)) (fun g => h (iff.mpr g)) hd hpp htr rok⟩
/-! ### all points -/
theorem pts_all {R : List Str} {ls : List Lnk} {l : Lnk} (ok : LinksOk R ls) {zs : List Int} (h : ∀ k, k ∈ zs ↔ ∃ x ∈ R, ∃ d ∈ R, (lkOf ls l).point d x = some k) : QT.AllPts (lkOf ls l) R zs := by
  intro d hd x p e
  refine (h p).mpr ⟨x, ?_, d, hd, e⟩
  have e' : (if x = d then none else match (lkOf ls l).P d x, (lkOf ls l).O d x with | some p, some o => some (p - o) | _, _ => none) = some p := e
  by_cases c : x = d
  · rw [if_pos c] at e'; cases e'
  rw [if_neg c] at e'
  cases hP : (lkOf ls l).P d x with
  | none => rw [hP] at e'; cases e'
  | some q =>
    have hs := sub_links ok (less_sub ls l.a l.b)
    have hP : QT.dist (arcs (less ls l.a l.b)) d x = some q := hP
    obtain ⟨y, ll, pp, ea, _, _⟩ := QT.dist_next (arcs_pos hs) hP c
    exact (arcs_in hs ea).1
/-- the inner walk of a comprehension -/
def LcI (J : It) (g : TG) (tt : TT) (te : TE) (vs : List Nat) (σ : L2.St) (H4 : Hp) (D : Addr) (Nx : Hp → Prop) : Prop := ∃ W1 : Nat → Nat → Hp → Prop, (∃ m, W1 0 m H4) ∧ ∀ j k H, W1 j k H →
  (J.stop j H ∧ Nx H) ∨ (J.go j H ∧ ∃ Nx1 : Hp → Prop, (∀ H', Nx1 H' → ∃ k', k' < k ∧ W1 (j + 1) k' H') ∧ ∀ x H', J.yld j H x H' → g x (wipe σ vs) H' fun σ3 H5 => wipe σ3 vs = wipe σ vs ∧ tt σ3 H5 fun b H6 =>
    if b = true then te σ3 H6 fun y H7 => ∃ acc, H7 D = some (.lst acc) ∧ acc.length < sizeLine ∧ Nx1 (upd H7 D (.lst (acc ++ [y]))) else Nx1 H6)
theorem lci_go {J : It} {F : Hp} {n : Nat} {Y : Nat → V → Hp → Prop} {g : TG} {tt : TT} {te : TE} {vs : List Nat} {σ : L2.St} {D : Addr} {Nx : Hp → Prop} {H4 : Hp} (ok : ItOk J F n Y) (Pv : Nat → Hp → Prop) (h0 : Pv 0 H4) (fr : ∀ i H, Pv i H → Same F H) (st : ∀ i H H', Same H H' → Pv i H → Pv i H')
    (turn : ∀ i H x, i < n → Pv i H → Y i x H → g x (wipe σ vs) H fun σ3 H5 => wipe σ3 vs = wipe σ vs ∧ tt σ3 H5 fun b H6 => if b = true then te σ3 H6 fun y H7 => ∃ acc, H7 D = some (.lst acc) ∧ acc.length < sizeLine ∧ Pv (i + 1) (upd H7 D (.lst (acc ++ [y]))) else Pv (i + 1) H6)
    (done : ∀ H, Pv n H → Nx H) : LcI J g tt te vs σ H4 D Nx := by
  refine ⟨fun i m H => m = n - i ∧ i ≤ n ∧ Pv i H, ⟨n, by simp, Nat.zero_le _, h0⟩, ?_⟩
  rintro i m H ⟨rfl, hi, p⟩
  by_cases hlt : i < n
  · refine .inr ⟨ok.go i H (fr _ _ p) hlt, Pv (i + 1), fun H' p' => ⟨n - (i + 1), by omega, rfl, hlt, p'⟩, fun x H' y => ?_⟩
    obtain ⟨s', y'⟩ := ok.yld i H x H' (fr _ _ p) hlt y
    exact turn i H' x hlt (st _ _ _ s' p) y'
  · have e : i = n := by omega
    subst e
    exact .inl ⟨ok.stop H (fr _ _ p), done H p⟩
def LcW2 (J : It) (g : TG) (tt : TT) (wi1 : TI) (g1 : TG) (tt1 : TT) (te : TE) (vs vs1 : List Nat) (σ : L2.St) (H1 : Hp) (D : Addr) (Q : VK) : Prop := ∃ W : Nat → Nat → Hp → Prop, (∃ m, W 0 m (upd H1 D (.lst []))) ∧ ∀ i m H, W i m H →
  (J.stop i H ∧ Q (.ref D) H) ∨ (J.go i H ∧ ∃ Nx : Hp → Prop, (∀ H', Nx H' → ∃ m', m' < m ∧ W (i + 1) m' H') ∧ ∀ x H', J.yld i H x H' → g x (wipe σ vs) H' fun σ2 H2 => wipe σ2 vs = wipe σ vs ∧ tt σ2 H2 fun b H3 =>
    if b = true then wi1 σ2 H3 fun J1 H4 => LcI J1 g1 tt1 te vs1 σ2 H4 D Nx else Nx H3)
theorem a_lc2 {wi wi1 : TI} {g g1 : TG} {tt tt1 : TT} {te : TE} {vs vs1 : List Nat} {σ : L2.St} {H : Hp} {Q : VK} (h : wi σ H fun J H1 => ∀ D, H1 D = none → LcW2 J g tt wi1 g1 tt1 te vs vs1 σ H1 D Q) : tLc2 wi g tt wi1 g1 tt1 te vs vs1 σ H Q := h
theorem lc2_go {J : It} {F : Hp} {n : Nat} {Y : Nat → V → Hp → Prop} {g g1 : TG} {tt tt1 : TT} {wi1 : TI} {te : TE} {vs vs1 : List Nat} {σ : L2.St} {D : Addr} {Q : VK} {H1 : Hp} (ok : ItOk J F n Y) (Pv : Nat → Hp → Prop) (h0 : Pv 0 (upd H1 D (.lst []))) (fr : ∀ i H, Pv i H → Same F H) (st : ∀ i H H', Same H H' → Pv i H → Pv i H')
    (turn : ∀ i H x, i < n → Pv i H → Y i x H → g x (wipe σ vs) H fun σ2 H2 => wipe σ2 vs = wipe σ vs ∧ tt σ2 H2 fun b H3 => if b = true then wi1 σ2 H3 fun J1 H4 => LcI J1 g1 tt1 te vs1 σ2 H4 D (Pv (i + 1)) else Pv (i + 1) H3)
    (done : ∀ H, Pv n H → Q (.ref D) H) : LcW2 J g tt wi1 g1 tt1 te vs vs1 σ H1 D Q := by
  refine ⟨fun i m H => m = n - i ∧ i ≤ n ∧ Pv i H, ⟨n, by simp, Nat.zero_le _, h0⟩, ?_⟩
  rintro i m H ⟨rfl, hi, p⟩
  by_cases hlt : i < n
  · refine .inr ⟨ok.go i H (fr _ _ p) hlt, Pv (i + 1), fun H' p' => ⟨n - (i + 1), by omega, rfl, hlt, p'⟩, fun x H' y => ?_⟩
    obtain ⟨s', y'⟩ := ok.yld i H x H' (fr _ _ p) hlt y
    exact turn i H' x hlt (st _ _ _ s' p) y'
  · have e : i = n := by omega
    subst e
    exact .inl ⟨ok.stop H (fr _ _ p), done H p⟩
noncomputable def ptsO (W : QT.Lk Str) (R : List Str) (xs : List Str) : List (Option Int) := xs.flatMap fun x => R.map fun d => W.point d x
theorem ptsO_len (W : QT.Lk Str) (R xs : List Str) : (ptsO W R xs).length = xs.length * R.length := by
  unfold ptsO
  rw [List.length_flatMap]
  simp only [List.length_map]
  induction xs with
  | nil => simp
  | cons a xs ih => simp only [List.map_cons, List.sum_cons, List.length_cons, ih, Nat.succ_mul]; omega
theorem ptsO_snoc (W : QT.Lk Str) (R xs : List Str) (x : Str) : ptsO W R (xs ++ [x]) = ptsO W R xs ++ R.map fun d => W.point d x := by
  unfold ptsO
  simp
theorem mul8 {a b : Nat} (ha : a ≤ 8) (hb : b ≤ 8) : a * b ≤ 64 := Nat.le_trans (Nat.mul_le_mul ha hb) (by decide)
theorem sorted_len : ∀ {zs ns : List Int}, zs.Pairwise (· < ·) → (∀ k, k ∈ zs ↔ k ∈ ns) → zs.length ≤ ns.length := fun {zs ns} h e => nodup_le (h.imp fun h e => by omega) fun x hx => (e x).mp hx
def spAllPoints (CN CC : Addr) : Sp := fun vs H Q _ => ∃ (c r : Addr) (R : List Str) (ls : List Lnk) (l : Lnk), vs = [.ref c, .ref r] ∧ ChgAt CN CC H c R ls l ∧ RoutersOk R ∧ LinksOk R ls ∧ l ∈ ls ∧ H r = some (.tup (R.map V.str)) ∧
  ∀ (H' : Hp) (p : Addr) (zs : List Int), Same H H' → H' p = some (.tup (zs.map V.int)) → zs.Pairwise (· < ·) → zs.length ≤ 64 → QT.AllPts (lkOf ls l) R zs → Q (.ref p) H'
abbrev N_all_points : List Str := ["change", "routers", "found", "router", "d", "at"]
theorem sc_all_points : FnScope N_all_points ["change", "routers"] (defScope QH.s_all_points) := ⟨rfl, rfl, rfl, by decide +kernel, rfl, by decide +kernel, by decide +kernel⟩
theorem D_all_points (T : Tx P w K mg base CN CC) (F : FunAt K mg "all_points" QH.s_all_points) (M_Change_point : MethOk P w K mg base CC "point" ["self", "router", "d"] (spPoint CN CC) 2) :
    DefOk P w K mg base "all_points" ["change", "routers"] (spAllPoints CN CC) 3 := by
  refine mk_def F sc_all_points (fun _ _ _ _ _ _ us hl => match us, hl with | [_, _], _ => rfl) (fun vs H Q E h => by obtain ⟨c, r, R, ls, l, rfl, _⟩ := h; rfl) (fun f cdv A outer s0 H vs Q E hr h => ?_)
  have nd := sc_all_points.nd
  obtain ⟨c, r, R, ls, l, rfl, hc, ok1, ok2, hl, hrr, k⟩ := h
  have h8 := ok1.most
  refine ⟨_, (pss_cons (ps_setLc2 (i := 2) (own := [("router", 3), ("d", 4)]) (vs1 := [4]) (g := (gName 3)) (tt := tYes) (g1 := (gName 4)) (tt1 := tYes) rfl nd rfl rfl (sw_true rfl rfl rfl (by decide +kernel)) (ki_ptup (K := K) (pv 1)) (blkOk_by (by with_unfolding_all rfl)) (by decide) (fun _ _ _ _ _ => (pg_name (i := 3) nd rfl (by first | exact Or.inl rfl | exact Or.inr rfl))) (fun _ _ _ _ _ => pts_nil) (fun _ _ _ _ _ => (ki_ptup (K := K) (pv 1))) (fun _ _ _ _ _ => (pg_name (i := 4) nd rfl (by first | exact Or.inl rfl | exact Or.inr rfl))) (fun _ _ _ _ _ => pts_nil) (fun _ _ _ _ _ => (pe_methD M_Change_point (hr.mono (by decide)) (pv 0) (pa_cons (pv 3) (pa_cons (pv 4) pa_nil)))))
    (pss_one (ps_ret (pe_callTy (ki_tuple (K := K)) (by rfl) T.f_tuple (by decide +kernel) (pa_cons (QS.pe_srt (ki_srtI (K := K) rfl (hu65 hr)) (by rfl) T.f_sorted (by rfl) T.f_set (pe_lc (own := [("at", 5)]) (g := (gName 5)) rfl nd (ki_plist (K := K) (pv 2)) (blkOk_by (by with_unfolding_all rfl)) (fun _ _ _ _ _ => (pg_name (i := 5) nd rfl (by first | exact Or.inl rfl | exact Or.inr rfl))) (fun _ _ _ _ _ => (pts_one (pt_cmpR op_notN1 (pv 5) pe_non (nomark _)))) (fun _ _ _ _ _ => (pv 5)))) pa_nil))))), ?_⟩
  walk_at "aa"
  refine a_lc2 ?_
  walk_at "aa"
  refine ⟨r, rfl, ⟨_, SqT.of hrr⟩, fun D nD => ?_⟩
  refine lc2_go (F := H) (it_tup hrr) (fun i H' => Same H H' ∧ H' D = some (.lst ((ptsO (lkOf ls l) R (R.take i)).map oV))) ⟨same_new nD, upd_same⟩ (fun _ _ h => h.1) (fun _ _ _ s h => ⟨h.1.trans s, s _ _ h.2⟩) ?_ ?_
  · rintro i H2 v hi ⟨sF, hD⟩ hv
    rw [List.getElem?_map] at hv
    obtain ⟨x, e1, rfl⟩ := Option.map_eq_some_iff.mp hv
    have hi8 : i < R.length := by simpa using hi
    walk_at "aa"
    refine ⟨rfl, ?_⟩
    walk_at "aa"
    refine ⟨r, rfl, ⟨_, SqT.of (sF _ _ hrr)⟩, ?_⟩
    refine lci_go (F := H) (it_tup hrr) (fun j H' => Same H H' ∧ H' D = some (.lst ((ptsO (lkOf ls l) R (R.take i) ++ (R.take j).map fun d => (lkOf ls l).point d x).map oV))) ⟨sF, by simpa using hD⟩ (fun _ _ h => h.1) (fun _ _ _ s h => ⟨h.1.trans s, s _ _ h.2⟩) ?_ ?_
    · rintro j H3 v hj ⟨sF3, hD3⟩ hv
      rw [List.getElem?_map] at hv
      obtain ⟨d, e2, rfl⟩ := Option.map_eq_some_iff.mp hv
      have hd := List.mem_of_getElem? e2
      have hc3 := hc.same sF3
      obtain ⟨dxm, fsm, hm1, hm2⟩ := m_chg (f := "point") (S := fun _ _ => True) hc3 (by decide +kernel)
      walk_at "aa"
      refine ⟨rfl, ?_⟩
      walk_at "aa"
      refine ⟨c, dxm, _, rfl, hm1, hm2, ?_⟩
      walk_at "aa"
      refine ⟨c, R, ls, l, x, d, rfl, hc3, ok2, hl, hd, fun H4 s4 => ?_⟩
      refine ⟨_, s4 _ _ hD3, ?_, same_mut (sF3.trans s4) nD, ?_⟩
      · have h1 := ptsO_len (lkOf ls l) R (R.take i)
        have h2 : (R.take i).length * R.length ≤ 64 := mul8 (by rw [List.length_take]; omega) h8
        rw [List.length_map, List.length_append, List.length_map, List.length_take]
        exact Nat.lt_of_le_of_lt (show _ ≤ 72 by omega) (by decide)
      · rw [upd_same, List.take_succ, e2]
        simp
    · rintro H3 ⟨sF3, hD3⟩
      refine ⟨sF3, ?_⟩
      have eR : R.take (R.map V.str).length = R := List.take_of_length_le (by simp)
      have e3 : R.take (i + 1) = R.take i ++ [x] := by rw [List.take_succ, e1]; rfl
      rw [eR] at hD3
      rw [hD3, e3, ptsO_snoc]
  · rintro H2 ⟨sF, hD⟩
    have eR : R.take (R.map V.str).length = R := List.take_of_length_le (by simp)
    rw [eR] at hD
    have lenP : (ptsO (lkOf ls l) R R).length ≤ 64 := by rw [ptsO_len]; exact mul8 h8 h8
    walk_at "aa"
    refine ⟨D, rfl, ⟨_, SqL.of hD⟩, fun D2 nD2 => ?_⟩
    refine lc_go (it_list hD) (Same.refl H2) nD2 (fun i acc H => acc = (((ptsO (lkOf ls l) R R).take i).filterMap id).map V.int) rfl (fun _ _ _ _ _ r => r) ?_ ?_
    · rintro i acc H3 v hi sF3 hD3 lc rr hv
      rw [List.getElem?_map] at hv
      obtain ⟨o, e1, rfl⟩ := Option.map_eq_some_iff.mp hv
      have et : (ptsO (lkOf ls l) R R).take (i + 1) = (ptsO (lkOf ls l) R R).take i ++ [o] := by rw [List.take_succ, e1]; rfl
      have hi64 : i < 64 := by rw [List.length_map] at hi; omega
      walk_at "aa"
      refine ⟨rfl, ?_⟩
      cases o with
      | none =>
        walk_at "aa"
        refine iteYN rfl ?_
        refine lc_skip sF3 hD3 lc ?_
        rw [et, rr]
        simp
      | some k =>
        walk_at "aa"
        refine iteZN (fun h => nomatch h) ?_
        walk_at "aa"
        refine lc_put (by omega) nD2 (fun _ _ _ _ _ r => r) sF3 hD3 lc ?_
        rw [et, rr]
        simp
    · intro acc H3 sF3 hD3 lc rr
      rw [List.take_of_length_le (by simp)] at rr
      subst rr
      have lenF : ((ptsO (lkOf ls l) R R).filterMap id).length ≤ 64 := Nat.le_trans (List.length_filterMap_le _ _) lenP
      refine a_srtI hD3 (by rw [show (64:Nat) = 64 from rfl] at *; omega) fun zs p4 H4 hz1 hz2 n4 s4 h4 => ?_
      walk_at "aa"
      refine a_tupL h4 fun p5 H5 n5 s5 h5 => ?_
      refine k H5 p5 zs (sF.trans (sF3.trans (s4.trans s5))) h5 hz1 (Nat.le_trans (sorted_len hz1 hz2) lenF) (pts_all ok2 fun kk => ?_)
      rw [hz2, List.mem_filterMap]
      unfold ptsO
      simp only [List.mem_flatMap, List.mem_map, id]
      constructor
      · rintro ⟨o, ⟨x, hx, d, hd, rfl⟩, e⟩
        exact ⟨x, hx, d, hd, e⟩
      · rintro ⟨x, hx, d, hd, e⟩
        exact ⟨_, ⟨x, hx, d, hd, rfl⟩, e⟩
end QB
set_option Elab.async false
set_option linter.all false
set_option maxRecDepth 100000
set_option maxHeartbeats 4000000

namespace QB
open PySem PySem.Spec L2
open PyProof.Rows (envOfC)
open PySem.PyData (strOk)
open RZ (Ty4 rIsTy call_isTy pi_zipA iZipA ItzT for_zipT for_zipL)
open StX (tStar pa_star)
open QS (SrtR tSrt rSrtI rSrtS rSrtT)
open QT (AllQ Ole Olt)
local macro_rules | `(tactic| walk_at "hp") => `(tactic| first | assumption | exact upd_same | (refine sg (by assumption) ?_; walk_at "hp"))
local macro_rules | `(tactic| walk_at "a") => `(tactic| first
  | with_reducible refine a_seq ?_ | with_reducible refine a_asg ?_ | with_reducible refine a_drop ?_ | with_reducible refine a_ret ?_ | with_reducible refine a_retN ?_
  | with_reducible refine a_ifS ?_ | with_reducible refine a_next ?_ | with_reducible refine a_gname ?_ | with_reducible refine a_nx ?_ | with_reducible refine a_rt ?_ | with_reducible refine a_bk ?_ | with_reducible refine a_ct ?_
  | ((with_reducible show tVar _ _ _ _); refine a_var rfl ?_) | with_reducible refine a_c ?_ | with_reducible refine a_op ?_ | with_reducible refine a_un ?_ | with_reducible refine a_cb ?_ | with_reducible refine a_nil ?_ | with_reducible refine a_cons ?_
  | with_reducible refine a_call ?_ | with_reducible refine a_meth ?_ | with_reducible refine a_make ?_ | with_reducible refine a_test ?_ | with_reducible refine a_tTest ?_ | with_reducible refine a_tand ?_ | with_reducible refine a_tor ?_ | with_reducible refine a_tnot ?_
  | with_reducible refine a_and ?_ | with_reducible refine a_or ?_ | with_reducible refine a_not ?_ | with_reducible refine a_if ?_ | with_reducible refine a_ri0 ?_ | with_reducible refine a_tup ?_ | with_reducible refine a_lst ?_
  | with_reducible refine a_bl ?_ | with_reducible refine a_sfld ?_ | with_reducible refine a_exI ?_ | with_reducible refine a_exZ ?_ | with_reducible refine a_chain ?_ | with_reducible refine a_lc ?_ | with_reducible refine a_yes ?_ | with_reducible refine a_gcons ?_ | with_reducible refine a_gnil ?_ | with_reducible refine w_list ?_ | with_reducible refine w_tup ?_ | with_reducible refine w_str ?_ | with_reducible refine w_rng1 ?_ | with_reducible refine w_zip ?_ | with_reducible refine w_zipA ?_
  | with_reducible refine a_tFld ?_ | with_reducible refine a_dget ?_ | with_reducible refine a_din ?_ | with_reducible refine a_dnin ?_ | with_reducible refine a_sl ?_ | with_reducible refine a_slNone ?_ | with_reducible refine a_slSome ?_
  | with_reducible refine a_isN ?_ | with_reducible refine a_notN ?_ | with_reducible refine a_eqI ?_ | with_reducible refine a_neI ?_ | with_reducible refine a_eqZ ?_ | with_reducible refine a_neZ ?_ | with_reducible refine a_ltZ ?_ | with_reducible refine a_int ?_ | with_reducible refine a_intB ?_ | with_reducible refine a_abs ?_ | with_reducible refine a_max2 ?_ | with_reducible refine a_min2 ?_ | with_reducible refine a_bm ?_
  | ((with_reducible show rLenQ _ _ _ _); first | refine a_lenT (by walk_at "hp") ?_ | refine a_lenL (by walk_at "hp") ?_)
  | with_reducible refine a_prsC ?_ | with_reducible refine a_prsN ?_ | with_reducible refine a_for ?_ | with_reducible refine a_dput ?_ | with_reducible refine w_keys ?_ | with_reducible refine w_listT ?_
  | with_reducible refine QB.a_rU ?_ | with_reducible refine QB.a_cKw ?_ | with_reducible refine QB.a_star ?_ | with_reducible refine QB.a_dget2 ?_
  | with_reducible refine QB.a_par ?_ | with_reducible refine QB.a_par3 ?_
  | with_reducible refine QB.a_srt ?_
  | with_reducible refine QB.a_dc ?_
  | with_reducible refine iteT ?_ | with_reducible refine iteNT ?_ | with_reducible refine iteNF ?_ | with_reducible refine iteF ?_ | with_reducible refine a_prop ?_)
local macro_rules | `(tactic| walk_at "aa") => `(tactic| (walk_at "a"; repeat walk_at "a"))

variable {P : Program} {w : World} {K : PySem.W.Frag} {mg : Str → Option Value} {base : Heap} {CN CC : Addr}
/-- what a change is asked to be -/
structure ChgOk (CN CC : Addr) (H : Hp) (c : Addr) (R : List Str) (ls : List Lnk) (l : Lnk) : Prop where
  at_ : ChgAt CN CC H c R ls l
  r : RoutersOk R
  lo : LinksOk R ls
  mem : l ∈ ls
theorem ChgOk.same {H H' : Hp} {c : Addr} {R : List Str} {ls : List Lnk} {l : Lnk} (s : Same H H') (h : ChgOk CN CC H c R ls l) : ChgOk CN CC H' c R ls l := ⟨h.at_.same s, h.r, h.lo, h.mem⟩
theorem ChgOk.lk {H : Hp} {c : Addr} {R : List Str} {ls : List Lnk} {l : Lnk} (h : ChgOk CN CC H c R ls l) : (lkOf ls l).Ok := lk_ok h.lo h.mem
def spNextStop (CN CC : Addr) : Sp := fun vs H Q _ => ∃ (c pp : Addr) (R : List Str) (ls : List Lnk) (l : Lnk) (zs : List Int) (t : Int) (g : Option Int), vs = [.ref c, .ref pp, .int t, oV g] ∧ ChgOk CN CC H c R ls l ∧ H pp = some (.tup (zs.map V.int)) ∧ zs.Pairwise (· < ·) ∧ QT.AllPts (lkOf ls l) R zs ∧
  (lkOf ls l).Fit (some t) ∧ (lkOf ls l).Fit g ∧ Ole (some t) g ∧
  (∀ H', Same H H' → AllQ (lkOf ls l) R (some t) g → Q .non H') ∧
  ∀ (H' : Hp) (p : Addr) (x : Int) (v : V), Same H H' → H' p = some (.tup [.int (x - 1), v]) → ¬ AllQ (lkOf ls l) R (some t) g → x ∈ zs → t + 1 < x → Ole (some x) g → AllQ (lkOf ls l) R (some t) (some (x - 1)) → Q (.ref p) H'
theorem asc_take {zs : List Int} (h : zs.Pairwise (· < ·)) {i : Nat} {x y : Int} (e : zs[i]? = some x) (hy : y ∈ zs) (l : y < x) : y ∈ zs.take i := by
  obtain ⟨j, hj, rfl⟩ := List.getElem_of_mem hy
  obtain ⟨hi, rfl⟩ := List.getElem?_eq_some_iff.mp e
  have : j < i := by
    rcases Nat.lt_trichotomy j i with q | q | q
    · exact q
    · subst q; omega
    · have := List.pairwise_iff_getElem.mp h i j hi hj q
      omega
  exact List.mem_take_iff_getElem.mpr ⟨j, by omega, rfl⟩
abbrev N_next_stop : List Str := ["change", "points", "t", "goal", "at", "found"]
theorem sc_next_stop : FnScope N_next_stop ["change", "points", "t", "goal"] (defScope QH.s_next_stop) := ⟨rfl, rfl, rfl, by decide +kernel, rfl, by decide +kernel, by decide +kernel⟩
theorem D_next_stop (T : Tx P w K mg base CN CC) (F : FunAt K mg "next_stop" QH.s_next_stop) (D_turns_between : DefOk P w K mg base "turns_between" ["change", "t", "other"] (spTurnsB CN CC) 10) (M_Change_stretch : MethOk P w K mg base CC "stretch" ["self", "d", "ring"] (spStretch CN CC) 3) :
    DefOk P w K mg base "next_stop" ["change", "points", "t", "goal"] (spNextStop CN CC) 11 := by
  refine mk_def F sc_next_stop (fun _ _ _ _ _ _ us hl => match us, hl with | [_, _, _, _], _ => rfl) (fun vs H Q E h => by obtain ⟨c, pp, R, ls, l, zs, t, g, rfl, _⟩ := h; rfl) (fun f cdv A outer s0 H vs Q E hr h => ?_)
  have nd := sc_next_stop.nd
  obtain ⟨c, pp, R, ls, l, zs, t, g, rfl, co, hpp, asc, all, ft, fg, tg, k1, k2⟩ := h
  refine ⟨_, (pss_cons (ps_if (pt_cmpR op_isN1 (pe_callD D_turns_between (hr.mono (by decide)) (by rfl) (pa_cons (pv 0) (pa_cons (pv 2) (pa_cons (pv 3) pa_nil)))) pe_non (nomark _)) (pss_one (ps_ret pe_non)) pss_nil)
    (pss_cons (ps_for PassesOwn.never rfl (ki_ptup (K := K) (pv 1)) (pg_name (i := 4) nd rfl (by first | exact Or.inl rfl | exact Or.inr rfl)) (pss_one (ps_if (PW.pt (pw_and (pt_cmpR op_gt (pv 4) (pv 2) (nomark _)) (pw_and1 (PW.pt (pw_or (pt_cmpR op_isN1 (pv 3) pe_non (nomark _)) (pw_or1 (pt_cmpR op_le (pv 4) (pv 3) (nomark _)))))))) (pss_cons (ps_set (i := 5) nd rfl (by first | exact Or.inl rfl | exact Or.inr rfl) (pe_callD D_turns_between (hr.mono (by decide)) (by rfl) (pa_cons (pv 0) (pa_cons (pv 2) (pa_cons (pv 4) pa_nil)))))
    (pss_one (ps_if (pt_cmpR op_notN1 (pv 5) pe_non (nomark _)) (pss_one (ps_ret (pe_tup (pa_cons (pe_op op_sub (pv 4) pe_int) (pa_cons (pe_tup (pa_cons (pe_ix (ki_ixT (K := K)) (pv 5) pe_int (fun _ _ => rfl)) (pa_cons (pe_ix (ki_ixT (K := K)) (pv 5) pe_int (fun _ _ => rfl)) (pa_cons (pe_methD M_Change_stretch (hr.mono (by decide)) (pv 0) (pa_cons (pe_ix (ki_ixT (K := K)) (pv 5) pe_int (fun _ _ => rfl)) (pa_cons (pe_ix (ki_ixT (K := K)) (pv 5) pe_int (fun _ _ => rfl)) pa_nil))) pa_nil)))) pa_nil))))) pss_nil))) pss_nil)))
    (pss_one (ps_ret pe_non)))), ?_⟩
  have lk := co.lk
  walk_at "aa"
  refine ⟨c, R, ls, l, some t, g, rfl, co.at_, co.r, co.lo, co.mem, ft, fg, fun H1 s1 aq => ?_, fun H1 p tr tl d ring s1 naq hd hp htr rok => ?_⟩
  · walk_at "aa"
    refine iteY rfl ?_
    walk_at "aa"
    exact k1 H1 s1 aq
  walk_at "aa"
  refine iteZ (fun h => nomatch h) ?_
  walk_at "aa"
  refine ⟨pp, rfl, ⟨_, SqT.of (s1 _ _ hpp)⟩, ?_⟩
  refine for_go (F := H) (it_tup hpp) (fun i σ H' => (Same H H' ∧ ∀ y ∈ zs.take i, t < y → Ole (some y) g → AllQ (lkOf ls l) R (some t) (some y)) ∧ ∃ q4 q5, σ = [some (.ref c), some (.ref pp), some (.int t), some (oV g), q4, q5]) ⟨⟨s1, fun y hy => by simp at hy⟩, _, _, rfl⟩ (fun _ _ _ h => h.1.1) (fun _ _ _ _ s h => ⟨⟨h.1.1.trans s, h.1.2⟩, h.2⟩) ?_ ?_
  · rintro i v σ H2 hi ⟨⟨sF, hA⟩, q4, q5, rfl⟩ hv
    rw [List.getElem?_map] at hv
    obtain ⟨x, e1, rfl⟩ := Option.map_eq_some_iff.mp hv
    have hx := List.mem_of_getElem? e1
    have skip : (t < x → Ole (some x) g → AllQ (lkOf ls l) R (some t) (some x)) → ∀ y ∈ zs.take (i + 1), t < y → Ole (some y) g → AllQ (lkOf ls l) R (some t) (some y) := fun h y hy => by
      rcases (mem_take e1).mp hy with hy | hy
      · exact hA y hy
      · rw [hy]; exact h
    have core : t < x → Ole (some x) g → ∀ {S1 S2 : L2.St → Hp → Prop}, True := fun _ _ _ _ => trivial
    walk_at "aa"
    by_cases ctx : t < x
    rotate_left
    · refine iteZ (by omega) ?_
      refine iteF ?_
      walk_at "aa"
      exact ⟨⟨sF, skip fun h => absurd h ctx⟩, _, _, rfl⟩
    refine iteY (by omega) ?_
    have fx : (lkOf ls l).Fit (some x) := QT.fit_up ft (by omega)
    cases g with
    | none =>
      walk_at "aa"
      refine iteY rfl ?_
      refine iteT ?_
      walk_at "aa"
      refine ⟨c, R, ls, l, some t, some x, rfl, co.at_.same sF, co.r, co.lo, co.mem, ft, fx, fun H3 s3 aq => ?_, fun H3 p2 tr2 tl2 d2 ring2 s3 naq2 hd2 hp2 htr2 rok2 => ?_⟩
      · walk_at "aa"
        refine iteYN rfl ?_
        walk_at "aa"
        exact ⟨⟨sF.trans s3, skip fun _ _ => aq⟩, _, _, rfl⟩
      · have bp := QT.before_point lk all ft ctx naq2 fun y hy h1 h2 => hA y (asc_take asc e1 hy h2) h1 trivial
        have co3 := co.same (sF.trans s3)
        obtain ⟨dxm, fsm, hm1, hm2⟩ := m_chg (f := "stretch") (S := fun _ _ => True) co3.at_ (by decide +kernel)
        walk_at "aa"
        refine iteZN (fun h => nomatch h) ?_
        walk_at "aa"
        refine a_ixT hp2 rfl ?_
        walk_at "aa"
        refine a_ixT hp2 rfl ?_
        walk_at "aa"
        refine ⟨c, dxm, _, rfl, hm1, hm2, ?_⟩
        walk_at "aa"
        refine a_ixT hp2 rfl ?_
        walk_at "aa"
        refine a_ixT hp2 rfl ?_
        walk_at "aa"
        refine ⟨c, tr2, R, ls, l, d2, ring2, rfl, co3.at_, co.lo, co.mem, hd2, htr2, rok2, fun H4 v4 s4 => ?_⟩
        walk_at "aa"
        refine ⟨by show 3 ≤ sizeLine; decide, fun t5 n5 => ?_⟩
        have s5 := same_new (o := .tup [.str d2, .ref tr2, v4]) n5
        walk_at "aa"
        refine ⟨by show 2 ≤ sizeLine; decide, fun t6 n6 => ?_⟩
        have s6 := same_new (o := .tup [.int (x - 1), .ref t5]) n6
        exact k2 _ t6 x _ (sF.trans (s3.trans (s4.trans (s5.trans s6)))) upd_same naq hx bp.1 trivial bp.2
    | some gg =>
      walk_at "aa"
      refine iteZ (fun h => nomatch h) ?_
      walk_at "aa"
      by_cases cg : x ≤ gg
      rotate_left
      · refine iteZ cg ?_
        walk_at "aa"
        exact ⟨⟨sF, skip fun _ h => absurd h cg⟩, _, _, rfl⟩
      refine iteY cg ?_
      walk_at "aa"
      refine ⟨c, R, ls, l, some t, some x, rfl, co.at_.same sF, co.r, co.lo, co.mem, ft, fx, fun H3 s3 aq => ?_, fun H3 p2 tr2 tl2 d2 ring2 s3 naq2 hd2 hp2 htr2 rok2 => ?_⟩
      · walk_at "aa"
        refine iteYN rfl ?_
        walk_at "aa"
        exact ⟨⟨sF.trans s3, skip fun _ _ => aq⟩, _, _, rfl⟩
      · have bp := QT.before_point lk all ft ctx naq2 fun y hy h1 h2 => hA y (asc_take asc e1 hy h2) h1 (show y ≤ gg by omega)
        have co3 := co.same (sF.trans s3)
        obtain ⟨dxm, fsm, hm1, hm2⟩ := m_chg (f := "stretch") (S := fun _ _ => True) co3.at_ (by decide +kernel)
        walk_at "aa"
        refine iteZN (fun h => nomatch h) ?_
        walk_at "aa"
        refine a_ixT hp2 rfl ?_
        walk_at "aa"
        refine a_ixT hp2 rfl ?_
        walk_at "aa"
        refine ⟨c, dxm, _, rfl, hm1, hm2, ?_⟩
        walk_at "aa"
        refine a_ixT hp2 rfl ?_
        walk_at "aa"
        refine a_ixT hp2 rfl ?_
        walk_at "aa"
        refine ⟨c, tr2, R, ls, l, d2, ring2, rfl, co3.at_, co.lo, co.mem, hd2, htr2, rok2, fun H4 v4 s4 => ?_⟩
        walk_at "aa"
        refine ⟨by show 3 ≤ sizeLine; decide, fun t5 n5 => ?_⟩
        have s5 := same_new (o := .tup [.str d2, .ref tr2, v4]) n5
        walk_at "aa"
        refine ⟨by show 2 ≤ sizeLine; decide, fun t6 n6 => ?_⟩
        have s6 := same_new (o := .tup [.int (x - 1), .ref t5]) n6
        exact k2 _ t6 x _ (sF.trans (s3.trans (s4.trans (s5.trans s6)))) upd_same naq hx bp.1 cg bp.2
  · rintro σ H2 ⟨⟨sF, hA⟩, q4, q5, rfl⟩
    obtain ⟨x, hx, h1, h2, h3⟩ := QT.some_point lk all ft fg tg naq
    exact absurd (hA x (by rw [List.take_of_length_le (by simp)]; exact hx) h1 h2) h3
end QB
set_option Elab.async false
set_option linter.all false
set_option maxRecDepth 100000
set_option maxHeartbeats 4000000

namespace QB
open PySem PySem.Spec L2
open PyProof.Rows (envOfC)
open PySem.PyData (strOk)
open RZ (Ty4 rIsTy call_isTy pi_zipA iZipA ItzT for_zipT for_zipL)
open StX (tStar pa_star)
open QS (SrtR tSrt rSrtI rSrtS rSrtT)
open QT (AllQ Ole Olt)
local macro_rules | `(tactic| walk_at "hp") => `(tactic| first | assumption | exact upd_same | (refine sg (by assumption) ?_; walk_at "hp"))
local macro_rules | `(tactic| walk_at "a") => `(tactic| first
  | with_reducible refine a_seq ?_ | with_reducible refine a_asg ?_ | with_reducible refine a_drop ?_ | with_reducible refine a_ret ?_ | with_reducible refine a_retN ?_
  | with_reducible refine a_ifS ?_ | with_reducible refine a_next ?_ | with_reducible refine a_gname ?_ | with_reducible refine a_nx ?_ | with_reducible refine a_rt ?_ | with_reducible refine a_bk ?_ | with_reducible refine a_ct ?_
  | ((with_reducible show tVar _ _ _ _); refine a_var rfl ?_) | with_reducible refine a_c ?_ | with_reducible refine a_op ?_ | with_reducible refine a_un ?_ | with_reducible refine a_cb ?_ | with_reducible refine a_nil ?_ | with_reducible refine a_cons ?_
  | with_reducible refine a_call ?_ | with_reducible refine a_meth ?_ | with_reducible refine a_make ?_ | with_reducible refine a_test ?_ | with_reducible refine a_tTest ?_ | with_reducible refine a_tand ?_ | with_reducible refine a_tor ?_ | with_reducible refine a_tnot ?_
  | with_reducible refine a_and ?_ | with_reducible refine a_or ?_ | with_reducible refine a_not ?_ | with_reducible refine a_if ?_ | with_reducible refine a_ri0 ?_ | with_reducible refine a_tup ?_ | with_reducible refine a_lst ?_
  | with_reducible refine a_bl ?_ | with_reducible refine a_sfld ?_ | with_reducible refine a_exI ?_ | with_reducible refine a_exZ ?_ | with_reducible refine a_chain ?_ | with_reducible refine a_lc ?_ | with_reducible refine a_yes ?_ | with_reducible refine a_gcons ?_ | with_reducible refine a_gnil ?_ | with_reducible refine w_list ?_ | with_reducible refine w_tup ?_ | with_reducible refine w_str ?_ | with_reducible refine w_rng1 ?_ | with_reducible refine w_zip ?_ | with_reducible refine w_zipA ?_
  | with_reducible refine a_tFld ?_ | with_reducible refine a_dget ?_ | with_reducible refine a_din ?_ | with_reducible refine a_dnin ?_ | with_reducible refine a_sl ?_ | with_reducible refine a_slNone ?_ | with_reducible refine a_slSome ?_
  | with_reducible refine a_isN ?_ | with_reducible refine a_notN ?_ | with_reducible refine a_eqI ?_ | with_reducible refine a_neI ?_ | with_reducible refine a_eqZ ?_ | with_reducible refine a_neZ ?_ | with_reducible refine a_ltZ ?_ | with_reducible refine a_int ?_ | with_reducible refine a_intB ?_ | with_reducible refine a_abs ?_ | with_reducible refine a_max2 ?_ | with_reducible refine a_min2 ?_ | with_reducible refine a_bm ?_
  | ((with_reducible show rLenQ _ _ _ _); first | refine a_lenT (by walk_at "hp") ?_ | refine a_lenL (by walk_at "hp") ?_)
  | with_reducible refine a_prsC ?_ | with_reducible refine a_prsN ?_ | with_reducible refine a_for ?_ | with_reducible refine a_dput ?_ | with_reducible refine w_keys ?_ | with_reducible refine w_listT ?_
  | with_reducible refine QB.a_rU ?_ | with_reducible refine QB.a_cKw ?_ | with_reducible refine QB.a_star ?_ | with_reducible refine QB.a_dget2 ?_
  | with_reducible refine QB.a_par ?_ | with_reducible refine QB.a_par3 ?_
  | with_reducible refine QB.a_srt ?_
  | with_reducible refine QB.a_dc ?_
  | with_reducible refine iteT ?_ | with_reducible refine iteNT ?_ | with_reducible refine iteNF ?_ | with_reducible refine iteF ?_ | with_reducible refine a_prop ?_)
local macro_rules | `(tactic| walk_at "aa") => `(tactic| (walk_at "a"; repeat walk_at "a"))

variable {P : Program} {w : World} {K : PySem.W.Frag} {mg : Str → Option Value} {base : Heap} {CN CC : Addr}
/-- quiet steps from s over the stops to the last of them -/
inductive Path (W : QT.Lk Str) (R : List Str) (s : Int) : List Int → Int → Prop
  | nil : Path W R s [] s
  | snoc {xs : List Int} {t u : Int} : Path W R s xs t → t < u → AllQ W R (some t) (some u) → Path W R s (xs ++ [u]) u
/-- .. and from there to the goal -/
def RowOk (W : QT.Lk Str) (R : List Str) (s : Int) (xs : List Int) (g : Option Int) : Prop := ∃ t, Path W R s xs t ∧ AllQ W R (some t) g
theorem Path.le {W : QT.Lk Str} {R : List Str} {s : Int} {xs : List Int} {t : Int} (h : Path W R s xs t) : s ≤ t := by
  induction h with
  | nil => exact Int.le_refl _
  | snoc _ lt _ ih => omega
def spRising (CN CC : Addr) : Sp := fun vs H Q _ => ∃ (c : Addr) (R : List Str) (ls : List Lnk) (l : Lnk) (s : Int) (g : Option Int), vs = [.ref c, .int s, oV g] ∧ ChgOk CN CC H c R ls l ∧ (lkOf ls l).Fit (some s) ∧ (lkOf ls l).Fit g ∧ Olt (some s) g ∧
  ∀ (H' : Hp) (p ps pr : Addr) (xs : List Int), Same H H' → H' p = some (.tup [.ref ps, .ref pr]) → H' ps = some (.lst (xs.map V.int)) → xs.length ≤ 100 → RowOk (lkOf ls l) R s xs g → (xs = [] ↔ AllQ (lkOf ls l) R (some s) g) → Q (.ref p) H'
theorem fall_count {zs : List Int} {t x : Int} (hx : x ∈ zs) (h : t + 1 < x) : (zs.filter fun z => decide ((x - 1) + 1 < z)).length < (zs.filter fun z => decide (t + 1 < z)).length :=
  QT.filter_lt (y := x) (fun z _ hz => by
    have := of_decide_eq_true hz
    exact decide_eq_true (by omega)) hx (decide_eq_false (by omega)) (decide_eq_true h)
abbrev N_rising_steps : List Str := ["change", "start", "goal", "found", "points", "stops", "rings", "t"]
theorem sc_rising_steps : FnScope N_rising_steps ["change", "start", "goal"] (defScope QH.s_rising_steps) := ⟨rfl, rfl, rfl, by decide +kernel, rfl, by decide +kernel, by decide +kernel⟩
theorem D_rising_steps (T : Tx P w K mg base CN CC) (F : FunAt K mg "rising_steps" QH.s_rising_steps) (D_all_points : DefOk P w K mg base "all_points" ["change", "routers"] (spAllPoints CN CC) 3) (D_next_stop : DefOk P w K mg base "next_stop" ["change", "points", "t", "goal"] (spNextStop CN CC) 11) :
    DefOk P w K mg base "rising_steps" ["change", "start", "goal"] (spRising CN CC) 12 := by
  refine mk_def F sc_rising_steps (fun _ _ _ _ _ _ us hl => match us, hl with | [_, _, _], _ => rfl) (fun vs H Q E h => by obtain ⟨c, R, ls, l, s, g, rfl, _⟩ := h; rfl) (fun f cdv A outer s0 H vs Q E hr h => ?_)
  have nd := sc_rising_steps.nd
  obtain ⟨c, R, ls, l, s, g, rfl, co, fs, fg, sg', k⟩ := h
  refine ⟨_, (pss_cons (ps_asg (pe_tup (pa_cons (pe_callD D_all_points (hr.mono (by decide)) (by rfl) (pa_cons (pv 0) (pa_cons (pe_routers T.net (hr.mono (by decide)) (ki_fld (K := K) (pv 0) rfl) rfl) pa_nil))) (pa_cons (pe_lst pa_nil) (pa_cons (pe_lst pa_nil) (pa_cons (pv 1) pa_nil))))) (ki_gtup (K := K) rfl (pgs_cons (pg_name (i := 4) nd rfl (by first | exact Or.inl rfl | exact Or.inr rfl)) (pgs_cons (pg_name (i := 5) nd rfl (by first | exact Or.inl rfl | exact Or.inr rfl)) (pgs_cons (pg_name (i := 6) nd rfl (by first | exact Or.inl rfl | exact Or.inr rfl)) (pgs_cons (pg_name (i := 7) nd rfl (by first | exact Or.inl rfl | exact Or.inr rfl)) pgs_nil))))))
    (pss_cons (ps_set (i := 3) nd rfl (by first | exact Or.inl rfl | exact Or.inr rfl) (pe_callD D_next_stop (hr.mono (by decide)) (by rfl) (pa_cons (pv 0) (pa_cons (pv 4) (pa_cons (pv 7) (pa_cons (pv 2) pa_nil))))))
    (pss_cons (ps_while PassesOwn.never (pt_cmpR op_notN1 (pv 3) pe_non (nomark _)) (pss_cons (ps_set (i := 7) nd rfl (by first | exact Or.inl rfl | exact Or.inr rfl) (pe_ix (ki_ixT (K := K)) (pv 3) pe_int (fun _ _ => rfl)))
    (pss_cons (ps_expr (pe_bm PySem.F.plainAttrs_list PySem.F.slot_list_append PySem.F.type_list_append mt_append (pv 5) (pa_cons (pe_ix (ki_ixT (K := K)) (pv 3) pe_int (fun _ _ => rfl)) pa_nil)))
    (pss_cons (ps_expr (pe_bm PySem.F.plainAttrs_list PySem.F.slot_list_append PySem.F.type_list_append mt_append (pv 6) (pa_cons (pe_ix (ki_ixT (K := K)) (pv 3) pe_int (fun _ _ => rfl)) pa_nil)))
    (pss_one (ps_set (i := 3) nd rfl (by first | exact Or.inl rfl | exact Or.inr rfl) (pe_callD D_next_stop (hr.mono (by decide)) (by rfl) (pa_cons (pv 0) (pa_cons (pv 4) (pa_cons (pv 7) (pa_cons (pv 2) pa_nil)))))))))))
    (pss_one (ps_ret (pe_tup (pa_cons (pv 5) (pa_cons (pe_callTy (ki_tuple (K := K)) (by rfl) T.f_tuple (by decide +kernel) (pa_cons (pv 6) pa_nil)) pa_nil)))))))), ?_⟩
  have lk := co.lk
  obtain ⟨dx, n, pr, m, pl, ov, o1, o2, h1, h2, h3, h4, h5, h6, h7, h8⟩ := co.at_.at_
  walk_at "aa"
  refine ⟨c, CC, dx, _, _, rfl, h1, T.chg, T.ch_net, cf1, ?_⟩
  refine n_routers h2 fun r hr => ?_
  walk_at "aa"
  refine ⟨c, r, R, ls, l, rfl, co.at_, co.r, co.lo, co.mem, hr, fun H1 pp zs s1 hpp asc zl all => ?_⟩
  walk_at "aa"
  refine ⟨by show 0 ≤ sizeLine; decide, fun pa na => ?_⟩
  have s2 := same_new (o := .lst []) na
  walk_at "aa"
  refine ⟨by show 0 ≤ sizeLine; decide, fun pb nb => ?_⟩
  have s3 := same_new (o := .lst []) nb
  have ab : pb ≠ pa := by rintro rfl; rw [upd_same] at nb; cases nb
  have nb1 : H1 pb = none := by rw [upd_ne ab] at nb; exact nb
  walk_at "aa"
  refine ⟨by show 4 ≤ sizeLine; decide, fun t4 n4 => ?_⟩
  have s4 := same_new (o := .tup [.ref pp, .ref pa, .ref pb, .int s]) n4
  refine a_gtup upd_same rfl ?_
  have e1 : upd (upd (upd H1 pa (.lst [])) pb (.lst [])) t4 (.tup [.ref pp, .ref pa, .ref pb, .int s]) pa = some (.lst ([].map V.int)) := s4 _ _ (s3 _ _ upd_same)
  have e2 : upd (upd (upd H1 pa (.lst [])) pb (.lst [])) t4 (.tup [.ref pp, .ref pa, .ref pb, .int s]) pb = some (.lst []) := s4 _ _ upd_same
  have s24 := s2.trans (s3.trans s4)
  walk_at "aa"
  generalize upd (upd (upd H1 pa (.lst [])) pb (.lst [])) t4 (.tup [.ref pp, .ref pa, .ref pb, .int s]) = H4 at *
  have co1 := co.same s1
  -- the state between two turns
  let Pv : Nat → L2.St → Hp → Prop := fun m σ H' => Same H1 H' ∧ ∃ (t : Int) (xs : List Int) (ys : List V) (fv : V), H' pa = some (.lst (xs.map V.int)) ∧ H' pb = some (.lst ys) ∧ ys.length = xs.length ∧ Path (lkOf ls l) R s xs t ∧ Ole (some t) g ∧ m + xs.length ≤ 70 ∧ (zs.filter fun z => decide (t + 1 < z)).length ≤ m ∧ (xs = [] → t = s) ∧ (xs ≠ [] → ¬ AllQ (lkOf ls l) R (some s) g) ∧
    ((fv = .non ∧ AllQ (lkOf ls l) R (some t) g) ∨ ∃ (p : Addr) (x : Int) (v : V), fv = .ref p ∧ H' p = some (.tup [.int (x - 1), v]) ∧ ¬ AllQ (lkOf ls l) R (some t) g ∧ x ∈ zs ∧ t + 1 < x ∧ Ole (some x) g ∧ AllQ (lkOf ls l) R (some t) (some (x - 1))) ∧
    σ = [some (.ref c), some (.int s), some (oV g), some fv, some (.ref pp), some (.ref pa), some (.ref pb), some (.int t)]
  have fit : ∀ {t : Int}, s ≤ t → (lkOf ls l).Fit (some t) := fun h => QT.fit_up fs h
  refine ⟨c, pp, R, ls, l, zs, s, g, rfl, co1.same s24, s24 _ _ hpp, asc, all, fs, fg, QT.Ole.of_lt sg', fun H5 s5 aq => ?a, fun H5 p x v s5 hp naq hx htx hxg aq => ?b⟩
  all_goals
    walk_at "aa"
    have cl : (zs.filter fun z => decide (s + 1 < z)).length ≤ 64 := Nat.le_trans (List.length_filter_le _ _) zl
  case' a =>
    refine while_go Pv 64 ⟨s24.trans s5, s, [], [], .non, s5 _ _ e1, s5 _ _ e2, rfl, .nil, QT.Ole.of_lt sg', by simp, cl, fun _ => rfl, fun h => absurd rfl h, .inl ⟨rfl, aq⟩, rfl⟩ ?_
  case' b =>
    refine while_go Pv 64 ⟨s24.trans s5, s, [], [], .ref p, s5 _ _ e1, s5 _ _ e2, rfl, .nil, QT.Ole.of_lt sg', by simp, cl, fun _ => rfl, fun h => absurd rfl h, .inr ⟨p, x, v, rfl, hp, naq, hx, htx, hxg, aq⟩, rfl⟩ ?_
  all_goals
    clear s5
    rintro m σ H6 ⟨sF, t, xs, ys, fv, ha, hb, lxy, path, tg, mb, cb, e0, ne0, hf, rfl⟩
    walk_at "aa"
    rcases hf with ⟨rfl, aq6⟩ | ⟨p6, x6, v6, rfl, hp6, naq6, hx6, htx6, hxg6, aq6⟩
    · refine iteYN rfl ?_
      walk_at "aa"
      refine a_tupL hb fun pt H7 n7 s7 h7 => ?_
      walk_at "aa"
      refine ⟨by show 2 ≤ sizeLine; decide, fun t8 n8 => ?_⟩
      have s8 := same_new (o := .tup [.ref pa, .ref pt]) n8
      refine k _ t8 pa pt xs (s1.trans (sF.trans (s7.trans s8))) upd_same (s8 _ _ (s7 _ _ ha)) (by omega) ⟨t, path, aq6⟩ ⟨fun e => ?_, fun q => ?_⟩
      · rw [← e0 e]; exact aq6
      · exact Classical.byContradiction fun ne => ne0 ne q
    · refine iteZN (fun h => nomatch h) ?_
      refine w_fell ?_
      walk_at "aa"
      refine a_ixT hp6 rfl ?_
      walk_at "aa"
      refine ⟨ty_lst ha, ?_⟩
      walk_at "aa"
      refine a_ixT hp6 rfl ?_
      walk_at "aa"
      refine a_app ha (by simp; omega) ?_
      have hb7 : upd H6 pa (.lst (xs.map V.int ++ [V.int (x6 - 1)])) pb = some (.lst ys) := by rw [upd_ne ab]; exact hb
      have ha7 : upd H6 pa (.lst (xs.map V.int ++ [V.int (x6 - 1)])) pa = some (.lst ((xs ++ [x6 - 1]).map V.int)) := by rw [upd_same]; simp
      have hp7 : upd H6 pa (.lst (xs.map V.int ++ [V.int (x6 - 1)])) p6 = some (.tup [.int (x6 - 1), v6]) := by
        rw [upd_ne (by rintro rfl; rw [ha] at hp6; cases hp6)]; exact hp6
      have sF7 : Same H1 (upd H6 pa (.lst (xs.map V.int ++ [V.int (x6 - 1)]))) := same_mut sF na
      generalize upd H6 pa (.lst (xs.map V.int ++ [V.int (x6 - 1)])) = H7 at *
      walk_at "aa"
      refine ⟨ty_lst hb7, ?_⟩
      walk_at "aa"
      refine a_ixT hp7 rfl ?_
      walk_at "aa"
      refine a_app hb7 (by omega) ?_
      have hb8 : upd H7 pb (.lst (ys ++ [v6])) pb = some (.lst (ys ++ [v6])) := upd_same
      have ha8 : upd H7 pb (.lst (ys ++ [v6])) pa = some (.lst ((xs ++ [x6 - 1]).map V.int)) := by rw [upd_ne (Ne.symm ab)]; exact ha7
      have sF8 : Same H1 (upd H7 pb (.lst (ys ++ [v6]))) := same_mut sF7 nb1
      generalize upd H7 pb (.lst (ys ++ [v6])) = H8 at *
      walk_at "aa"
      have hst := path.le
      have fx : (lkOf ls l).Fit (some (x6 - 1)) := fit (by omega)
      have xg : Ole (some (x6 - 1)) g := by
        cases g with
        | none => trivial
        | some gg =>
          have : x6 ≤ gg := hxg6
          show x6 - 1 ≤ gg
          omega
      have cnt := fall_count hx6 htx6
      have path' : Path (lkOf ls l) R s (xs ++ [x6 - 1]) (x6 - 1) := .snoc path (by omega) aq6
      have nall : ¬ AllQ (lkOf ls l) R (some s) g := fun q => by
        by_cases e : xs = []
        · exact naq6 (by rw [e0 e]; exact q)
        · exact ne0 e q
      refine ⟨c, pp, R, ls, l, zs, x6 - 1, g, rfl, co1.same sF8, sF8 _ _ hpp, asc, all, fx, fg, xg, fun H9 s9 aq9 => ?_, fun H9 p9 x9 v9 s9 hp9 naq9 hx9 htx9 hxg9 aq9 => ?_⟩
      · walk_at "aa"
        exact ⟨m - 1, by omega, sF8.trans s9, x6 - 1, _, _, .non, s9 _ _ ha8, s9 _ _ hb8, by simp; omega, path', xg, by simp; omega, by omega, fun e => by simp at e, fun _ => nall, .inl ⟨rfl, aq9⟩, rfl⟩
      · walk_at "aa"
        exact ⟨m - 1, by omega, sF8.trans s9, x6 - 1, _, _, .ref p9, s9 _ _ ha8, s9 _ _ hb8, by simp; omega, path', xg, by simp; omega, by omega, fun e => by simp at e, fun _ => nall, .inr ⟨p9, x9, v9, rfl, hp9, naq9, hx9, htx9, hxg9, aq9⟩, rfl⟩
def spIsBefore : Sp := fun vs H Q _ => ∃ (s : Int) (g : Option Int), vs = [.int s, oV g] ∧ Olt (some s) g ∧ Q (.bl true) H
abbrev N_is_before : List Str := ["t", "other"]
theorem sc_is_before : FnScope N_is_before ["t", "other"] (defScope QH.s_is_before) := ⟨rfl, rfl, rfl, by decide +kernel, rfl, by decide +kernel, by decide +kernel⟩
theorem D_is_before (T : Tx P w K mg base CN CC) (F : FunAt K mg "is_before" QH.s_is_before) : DefOk P w K mg base "is_before" ["t", "other"] spIsBefore 1 := by
  refine mk_def F sc_is_before (fun _ _ _ _ _ _ us hl => match us, hl with | [_, _], _ => rfl) (fun vs H Q E h => by obtain ⟨s, g, rfl, _⟩ := h; rfl) (fun f cdv A outer s0 H vs Q E hr h => ?_)
  have nd := sc_is_before.nd
  obtain ⟨s, g, rfl, sg', k⟩ := h
  refine ⟨_, (pss_one (ps_ret (pe_and (pe_cmpR op_notN1 (pv 0) pe_non (nomark _)) (pe_one (pe_or (pe_cmpR op_isN1 (pv 1) pe_non (nomark _)) (pe_one (pe_cmpR op_lt (pv 0) (pv 1) (nomark _)))))))), ?_⟩
  walk_at "aa"
  refine iteZN (fun h => nomatch h) ?_
  cases g with
  | none =>
    walk_at "aa"
    refine iteY rfl ?_
    exact k
  | some g =>
    have sg' : s < g := sg'
    walk_at "aa"
    refine iteZ (fun h => nomatch h) ?_
    walk_at "aa"
    simp only [sg', decide_true]
    exact k
/-- a new change -/
theorem mk_chg {H : Hp} {n : Addr} {R : List Str} {ls : List Lnk} {l : Lnk} {S : Addr → Hp → Prop} (hn : NetAt CN H n R ls) (o1 : RoutersOk R) (o2 : LinksOk R ls) (hl : l ∈ ls) (q : ∀ c H', Same H H' → ChgAt CN CC H' c R ls l → S c H') :
    ∀ x dx, H x = none → H dx = none → dx ≠ x → spChgInit CN CC [.ref x, .ref n, .str l.a, .str l.b] (upd (upd H dx (.own x)) x (.ins CC dx [])) (fun v H2 => v = .non ∧ S x H2) E0 := by
  intro x dx hx hdx ne
  have s1 : Same H (upd H dx (.own x)) := same_new hdx
  have s2 : Same H (upd (upd H dx (.own x)) x (.ins CC dx [])) := s1.trans (same_new (by rw [upd_ne (Ne.symm ne)]; exact hx))
  refine ⟨x, dx, n, R, ls, l, rfl, upd_same, hn.same s2, o1, o2, hl, fun H' k1 k2 => ?_⟩
  exact ⟨rfl, q x H' (fun b o e => k1 b o (ne_of_none e hx) (s2 _ _ e)) k2⟩
def spChecked (CN CC : Addr) : Sp := fun vs H Q _ => ∃ (n : Addr) (R : List Str) (ls : List Lnk) (l : Lnk) (s : Int) (g : Option Int), vs = [.ref n, .str l.a, .str l.b, .int s, oV g] ∧ NetAt CN H n R ls ∧ RoutersOk R ∧ LinksOk R ls ∧ l ∈ ls ∧ (lkOf ls l).Fit (some s) ∧ (lkOf ls l).Fit g ∧ Olt (some s) g ∧
  ∀ (c : Addr) (H' : Hp), Same H H' → ChgAt CN CC H' c R ls l → Q (.ref c) H'
abbrev N_checked_change : List Str := ["net", "a", "b", "start", "goal", "change", "t"]
theorem sc_checked_change : FnScope N_checked_change ["net", "a", "b", "start", "goal"] (defScope QH.s_checked_change) := ⟨rfl, rfl, rfl, by decide +kernel, rfl, by decide +kernel, by decide +kernel⟩
theorem D_checked_change (T : Tx P w K mg base CN CC) (F : FunAt K mg "checked_change" QH.s_checked_change) (C_Change : MakeOk P w K mg base "Change" CC ["self", "net", "a", "b"] (spChgInit CN CC) 8) (D_is_shift : DefOk P w K mg base "is_shift" ["change", "t"] (spIsShift CN CC) 2) :
    DefOk P w K mg base "checked_change" ["net", "a", "b", "start", "goal"] (spChecked CN CC) 10 := by
  refine mk_def F sc_checked_change (fun _ _ _ _ _ _ us hl => match us, hl with | [_, _, _, _, _], _ => rfl) (fun vs H Q E h => by obtain ⟨n, R, ls, l, s, g, rfl, _⟩ := h; rfl) (fun f cdv A outer s0 H vs Q E hr h => ?_)
  have nd := sc_checked_change.nd
  obtain ⟨n, R, ls, l, s, g, rfl, hn, o1, o2, hl, fs, fg, sg', k⟩ := h
  refine ⟨_, (pss_cons (ps_set (i := 5) nd rfl (by first | exact Or.inl rfl | exact Or.inr rfl) (pe_makeD C_Change (hr.mono (by decide)) (by rfl) (pa_cons (pv 0) (pa_cons (pv 1) (pa_cons (pv 2) pa_nil)))))
    (pss_cons (ps_for PassesOwn.never rfl (ki_ptup (K := K) (pe_tup (pa_cons (pv 3) (pa_cons (pv 4) pa_nil)))) (pg_name (i := 6) nd rfl (by first | exact Or.inl rfl | exact Or.inr rfl)) (pss_one (ps_if (pt_not (pt_val (pe_callD D_is_shift (hr.mono (by decide)) (by rfl) (pa_cons (pv 5) (pa_cons (pv 6) pa_nil))))) (pss_one ps_never) pss_nil)))
    (pss_cons (ps_if (pt_cmpR op_eq (pv 3) (pv 4) (nomark _)) (pss_one ps_never) pss_nil)
    (pss_one (ps_ret (pv 5)))))), ?_⟩
  walk_at "aa"
  refine mk_chg hn o1 o2 hl fun c H1 s1 hc => ?_
  walk_at "aa"
  refine ⟨by show 2 ≤ sizeLine; decide, fun t2 n2 => ?_⟩
  have s2 := same_new (o := .tup [.int s, oV g]) n2
  refine ⟨t2, rfl, ⟨_, SqT.of upd_same⟩, ?_⟩
  refine for_go (F := upd H1 t2 (.tup [.int s, oV g])) (it_tup upd_same) (fun i σ H' => Same (upd H1 t2 (.tup [.int s, oV g])) H' ∧ ∃ q6, σ = [some (.ref n), some (.str l.a), some (.str l.b), some (.int s), some (oV g), some (.ref c), q6]) ⟨Same.refl _, _, rfl⟩ (fun _ _ _ h => h.1) (fun _ _ _ _ s h => ⟨h.1.trans s, h.2⟩) ?_ ?_
  · rintro i v σ H3 hi ⟨sF, q6, rfl⟩ hv
    have hv' : ∃ o : Option Int, v = oV o ∧ (lkOf ls l).Fit o := by
      rcases List.mem_cons.mp (List.mem_of_getElem? hv) with rfl | hv
      · exact ⟨some s, rfl, fs⟩
      · rw [List.mem_singleton.mp hv]; exact ⟨g, rfl, fg⟩
    obtain ⟨o, rfl, fo⟩ := hv'
    walk_at "aa"
    refine ⟨c, R, ls, l, o, rfl, hc.same (s2.trans sF), fo, ?_⟩
    walk_at "aa"
    exact ⟨sF, _, rfl⟩
  · rintro σ H3 ⟨sF, q6, rfl⟩
    have sE := s1.trans (s2.trans sF)
    have hcE := hc.same (s2.trans sF)
    cases g with
    | none =>
      walk_at "aa"
      refine ⟨rfl, ?_⟩
      walk_at "aa"
      refine iteZ (fun h => nomatch h) ?_
      walk_at "aa"
      exact k c H3 sE hcE
    | some g =>
      have sg' : s < g := sg'
      walk_at "aa"
      refine iteZ (by omega) ?_
      walk_at "aa"
      exact k c H3 sE hcE
def spSteps (CN CC : Addr) : Sp := fun vs H Q _ => ∃ (n : Addr) (R : List Str) (ls : List Lnk) (l : Lnk) (s : Int) (g : Option Int), vs = [.ref n, .str l.a, .str l.b, .int s, oV g] ∧ NetAt CN H n R ls ∧ RoutersOk R ∧ LinksOk R ls ∧ l ∈ ls ∧ (lkOf ls l).Fit (some s) ∧ (lkOf ls l).Fit g ∧ Olt (some s) g ∧
  ∀ (H' : Hp) (p ps : Addr) (v : V) (xs : List Int), Same H H' → H' p = some (.tup [.str "steps", .ref ps, v]) → H' ps = some (.tup (xs.map V.int)) → xs.length ≤ 100 → RowOk (lkOf ls l) R s xs g → (xs = [] ↔ AllQ (lkOf ls l) R (some s) g) → Q (.ref p) H'
abbrev N_steps : List Str := ["net", "a", "b", "start", "goal", "change", "stops", "rings"]
theorem sc_steps : FnScope N_steps ["net", "a", "b", "start", "goal"] (defScope QH.s_steps) := ⟨rfl, rfl, rfl, by decide +kernel, rfl, by decide +kernel, by decide +kernel⟩
theorem D_steps (T : Tx P w K mg base CN CC) (F : FunAt K mg "steps" QH.s_steps) (D_checked_change : DefOk P w K mg base "checked_change" ["net", "a", "b", "start", "goal"] (spChecked CN CC) 10) (D_is_before : DefOk P w K mg base "is_before" ["t", "other"] spIsBefore 1)
    (D_rising_steps : DefOk P w K mg base "rising_steps" ["change", "start", "goal"] (spRising CN CC) 12) : DefOk P w K mg base "steps" ["net", "a", "b", "start", "goal"] (spSteps CN CC) 13 := by
  refine mk_def F sc_steps (fun _ _ _ _ _ _ us hl => match us, hl with | [_, _, _, _, _], _ => rfl) (fun vs H Q E h => by obtain ⟨n, R, ls, l, s, g, rfl, _⟩ := h; rfl) (fun f cdv A outer s0 H vs Q E hr h => ?_)
  have nd := sc_steps.nd
  obtain ⟨n, R, ls, l, s, g, rfl, hn, o1, o2, hl, fs, fg, sg', k⟩ := h
  refine ⟨_, (pss_cons (ps_set (i := 5) nd rfl (by first | exact Or.inl rfl | exact Or.inr rfl) (pe_callD D_checked_change (hr.mono (by decide)) (by rfl) (pa_cons (pv 0) (pa_cons (pv 1) (pa_cons (pv 2) (pa_cons (pv 3) (pa_cons (pv 4) pa_nil)))))))
    (pss_cons (ps_if (pt_val (pe_callD D_is_before (hr.mono (by decide)) (by rfl) (pa_cons (pv 3) (pa_cons (pv 4) pa_nil)))) (pss_cons (ps_asg (pe_callD D_rising_steps (hr.mono (by decide)) (by rfl) (pa_cons (pv 5) (pa_cons (pv 3) (pa_cons (pv 4) pa_nil)))) (ki_gtup (K := K) rfl (pgs_cons (pg_name (i := 6) nd rfl (by first | exact Or.inl rfl | exact Or.inr rfl)) (pgs_cons (pg_name (i := 7) nd rfl (by first | exact Or.inl rfl | exact Or.inr rfl)) pgs_nil))))
    (pss_one (ps_ret (pe_tup (pa_cons (k_str T.c_STEPS (by rfl)) (pa_cons (pe_callTy (ki_tuple (K := K)) (by rfl) T.f_tuple (by decide +kernel) (pa_cons (pv 6) pa_nil)) (pa_cons (pv 7) pa_nil))))))) pss_nil)
    (pss_cons (ps_asg (pe_callD D_rising_steps (hr.mono (by decide)) (by rfl) (pa_cons (pv 5) (pa_cons (pv 4) (pa_cons (pv 3) pa_nil)))) (ki_gtup (K := K) rfl (pgs_cons (pg_name (i := 6) nd rfl (by first | exact Or.inl rfl | exact Or.inr rfl)) (pgs_cons (pg_name (i := 7) nd rfl (by first | exact Or.inl rfl | exact Or.inr rfl)) pgs_nil))))
    (pss_one (ps_ret (pe_tup (pa_cons (k_str T.c_STEPS (by rfl)) (pa_cons (pe_callTy (ki_tuple (K := K)) (by rfl) T.f_tuple (by decide +kernel) (pa_cons (pe_revL (pv 6)) pa_nil)) (pa_cons (pv 7) pa_nil))))))))), ?_⟩
  walk_at "aa"
  refine ⟨n, R, ls, l, s, g, rfl, hn, o1, o2, hl, fs, fg, sg', fun c H1 s1 hc => ?_⟩
  walk_at "aa"
  refine ⟨s, g, rfl, sg', ?_⟩
  walk_at "aa"
  refine ⟨c, R, ls, l, s, g, rfl, ⟨hc, o1, o2, hl⟩, fs, fg, sg', fun H2 p ps pr xs s2 hp hps lx row iff => ?_⟩
  refine a_gtup hp rfl ?_
  walk_at "aa"
  refine a_tupL hps fun pt H3 n3 s3 h3 => ?_
  walk_at "aa"
  refine ⟨by show 3 ≤ sizeLine; decide, fun t4 n4 => ?_⟩
  have s4 := same_new (o := .tup [.str "steps", .ref pt, .ref pr]) n4
  exact k _ t4 pt _ xs (s1.trans (s2.trans (s3.trans s4))) upd_same (s4 _ _ h3) lx row iff
end QB
set_option Elab.async false
set_option linter.all false
set_option maxRecDepth 100000
set_option maxHeartbeats 4000000

namespace QB
open PySem PySem.Spec L2
open PyProof.Rows (envOfC)
open PySem.PyData (strOk)
open RZ (Ty4 rIsTy call_isTy pi_zipA iZipA ItzT for_zipT for_zipL)
open StX (tStar pa_star)
open QS (SrtR tSrt rSrtI rSrtS rSrtT)
open QT (AllQ Ole Olt)
local macro_rules | `(tactic| walk_at "hp") => `(tactic| first | assumption | exact upd_same | (refine sg (by assumption) ?_; walk_at "hp"))
local macro_rules | `(tactic| walk_at "a") => `(tactic| first
  | with_reducible refine a_seq ?_ | with_reducible refine a_asg ?_ | with_reducible refine a_drop ?_ | with_reducible refine a_ret ?_ | with_reducible refine a_retN ?_
  | with_reducible refine a_ifS ?_ | with_reducible refine a_next ?_ | with_reducible refine a_gname ?_ | with_reducible refine a_nx ?_ | with_reducible refine a_rt ?_ | with_reducible refine a_bk ?_ | with_reducible refine a_ct ?_
  | ((with_reducible show tVar _ _ _ _); refine a_var rfl ?_) | with_reducible refine a_c ?_ | with_reducible refine a_op ?_ | with_reducible refine a_un ?_ | with_reducible refine a_cb ?_ | with_reducible refine a_nil ?_ | with_reducible refine a_cons ?_
  | with_reducible refine a_call ?_ | with_reducible refine a_meth ?_ | with_reducible refine a_make ?_ | with_reducible refine a_test ?_ | with_reducible refine a_tTest ?_ | with_reducible refine a_tand ?_ | with_reducible refine a_tor ?_ | with_reducible refine a_tnot ?_
  | with_reducible refine a_and ?_ | with_reducible refine a_or ?_ | with_reducible refine a_not ?_ | with_reducible refine a_if ?_ | with_reducible refine a_ri0 ?_ | with_reducible refine a_tup ?_ | with_reducible refine a_lst ?_
  | with_reducible refine a_bl ?_ | with_reducible refine a_sfld ?_ | with_reducible refine a_exI ?_ | with_reducible refine a_exZ ?_ | with_reducible refine a_chain ?_ | with_reducible refine a_lc ?_ | with_reducible refine a_yes ?_ | with_reducible refine a_gcons ?_ | with_reducible refine a_gnil ?_ | with_reducible refine w_list ?_ | with_reducible refine w_tup ?_ | with_reducible refine w_str ?_ | with_reducible refine w_rng1 ?_ | with_reducible refine w_zip ?_ | with_reducible refine w_zipA ?_
  | with_reducible refine a_tFld ?_ | with_reducible refine a_dget ?_ | with_reducible refine a_din ?_ | with_reducible refine a_dnin ?_ | with_reducible refine a_sl ?_ | with_reducible refine a_slNone ?_ | with_reducible refine a_slSome ?_
  | with_reducible refine a_isN ?_ | with_reducible refine a_notN ?_ | with_reducible refine a_eqI ?_ | with_reducible refine a_neI ?_ | with_reducible refine a_eqZ ?_ | with_reducible refine a_neZ ?_ | with_reducible refine a_ltZ ?_ | with_reducible refine a_int ?_ | with_reducible refine a_intB ?_ | with_reducible refine a_abs ?_ | with_reducible refine a_max2 ?_ | with_reducible refine a_min2 ?_ | with_reducible refine a_bm ?_
  | ((with_reducible show rLenQ _ _ _ _); first | refine a_lenT (by walk_at "hp") ?_ | refine a_lenL (by walk_at "hp") ?_)
  | with_reducible refine a_prsC ?_ | with_reducible refine a_prsN ?_ | with_reducible refine a_for ?_ | with_reducible refine a_dput ?_ | with_reducible refine w_keys ?_ | with_reducible refine w_listT ?_
  | with_reducible refine QB.a_rU ?_ | with_reducible refine QB.a_cKw ?_ | with_reducible refine QB.a_star ?_ | with_reducible refine QB.a_dget2 ?_
  | with_reducible refine QB.a_par ?_ | with_reducible refine QB.a_par3 ?_
  | with_reducible refine QB.a_srt ?_
  | with_reducible refine QB.a_dc ?_
  | with_reducible refine iteT ?_ | with_reducible refine iteNT ?_ | with_reducible refine iteNF ?_ | with_reducible refine iteF ?_ | with_reducible refine a_prop ?_)
local macro_rules | `(tactic| walk_at "aa") => `(tactic| (walk_at "a"; repeat walk_at "a"))

variable {P : Program} {w : World} {K : PySem.W.Frag} {mg : Str → Option Value} {base : Heap} {CN CC : Addr}
/-- a pot: what is drawn from, c draws at most so far -/
def PotAt (H : Hp) (p : Addr) (c : Nat) : Prop := ∃ own seed cnt : Int, H p = some (.lst [.int own, .int seed, .int cnt]) ∧ 0 ≤ own ∧ 0 ≤ seed ∧ seed < 2 ^ 61 ∧ 0 ≤ cnt ∧ cnt ≤ c
theorem PotAt.same {H H' : Hp} {p : Addr} {c : Nat} (s : Same H H') (h : PotAt H p c) : PotAt H' p c := by
  obtain ⟨a, b, d, e, r⟩ := h
  exact ⟨a, b, d, s _ _ e, r⟩
theorem PotAt.more {H : Hp} {p : Addr} {c d : Nat} (l : c ≤ d) (h : PotAt H p c) : PotAt H p d := by
  obtain ⟨a, b, e, h1, h2, h3, h4, h5, h6⟩ := h
  exact ⟨a, b, e, h1, h2, h3, h4, h5, by omega⟩
theorem PotAt.some {H : Hp} {p : Addr} {c : Nat} (h : PotAt H p c) : ∃ xs, H p = some (.lst xs) := by
  obtain ⟨a, b, e, h1, _⟩ := h
  exact ⟨_, h1⟩
theorem But.upd {c : Addr} {H H1 : Hp} {o : HO} (h : But c H H1) : But c H (upd H1 c o) := fun b u hb e => by rw [upd_ne hb]; exact h b u hb e
theorem But.of {c : Addr} {H H' : Hp} (s : Same H H') : But c H H' := fun b o _ e => s b o e
theorem But.tup {c b : Addr} {H H' : Hp} {n : Nat} {xs : List V} (h : But c H H') (p : PotAt H c n) (e : H b = some (.tup xs)) : H' b = some (.tup xs) := by
  obtain ⟨ys, ep⟩ := p.some
  exact h b _ (by rintro rfl; rw [ep] at e; cases e) e
theorem But.new {c b : Addr} {H H' : Hp} {n : Nat} {o : HO} (h : But c H H') (p : PotAt H c n) (nb : b ≠ c) (e : H b = some o) : H' b = some o := h b _ nb e
/-- a new thing is not the pot -/
theorem PotAt.ne {H : Hp} {p q : Addr} {c : Nat} (h : PotAt H p c) (n : H q = none) : q ≠ p := by
  obtain ⟨xs, e⟩ := h.some
  rintro rfl
  rw [n] at e; cases e
def spTake : Sp := fun vs H Q _ => ∃ (p : Addr) (u : Int) (c : Nat), vs = [.ref p, .int u] ∧ PotAt H p c ∧ c ≤ 1000000 ∧ 0 < u ∧ u ≤ 1000 ∧ ∀ (r : Int) (H' : Hp), 0 ≤ r → r < u → But p H H' → PotAt H' p (c + 1) → Q (.int r) H'
abbrev N__law_take : List Str := ["_law_pot_here", "_law_upto", "_law_prime", "_law_stirred", "_law_digit"]
theorem sc__law_take : FnScope N__law_take ["_law_pot_here", "_law_upto"] (defScope QH.s__law_take) := ⟨rfl, rfl, rfl, by decide +kernel, rfl, by decide +kernel, by decide +kernel⟩
theorem D_law_take (T : Tx P w K mg base CN CC) (F : FunAt K mg "_law_take" QH.s__law_take) : DefOk P w K mg base "_law_take" ["_law_pot_here", "_law_upto"] spTake 1 := by
  refine mk_def F sc__law_take (fun _ _ _ _ _ _ us hl => match us, hl with | [_, _], _ => rfl) (fun vs H Q E h => by obtain ⟨p, u, c, rfl, _⟩ := h; rfl) (fun f cdv A outer s0 H vs Q E hr h => ?_)
  have nd := sc__law_take.nd
  obtain ⟨p, u, c, rfl, ⟨own, seed, cnt, hp, ho, hs0, hs1, hc0, hc1⟩, hc, hu0, hu1, k⟩ := h
  refine ⟨_, (pss_cons (ps_if (pt_cmpR op_gt (pe_ix (ki_ixL (K := K)) (pv 0) pe_int (fun _ _ => rfl)) pe_int (nomark _)) (pss_cons (ps_set (i := 4) nd rfl (by first | exact Or.inl rfl | exact Or.inr rfl) (pe_op op_mod (pe_callTy c_int (by rfl) T.f_int (by decide +kernel) (pa_cons (pe_ix (ki_ixL (K := K)) (pv 0) pe_int (fun _ _ => rfl)) pa_nil)) (pv 1)))
    (pss_cons (ps_asg (pe_op op_fdiv (pe_ix (ki_ixL (K := K)) (pv 0) pe_int (fun _ _ => rfl)) (pv 1)) (pg_sub (pv 0) pe_int set_list))
    (pss_one (ps_ret (pv 4))))) pss_nil)
    (pss_cons (ps_asg (pe_op op_add (pe_ix (ki_ixL (K := K)) (pv 0) pe_int (fun _ _ => rfl)) pe_int) (pg_sub (pv 0) pe_int set_list))
    (pss_cons (ps_set (i := 2) nd rfl (by first | exact Or.inl rfl | exact Or.inr rfl) (pe_ix (ki_ixL (K := K)) (pe_lst (pa_cons pe_int (pa_cons pe_int (pa_cons pe_int (pa_cons pe_int (pa_cons pe_int pa_nil)))))) (pe_op op_mod (pe_callTy c_int (by rfl) T.f_int (by decide +kernel) (pa_cons (pe_ix (ki_ixL (K := K)) (pv 0) pe_int (fun _ _ => rfl)) pa_nil)) pe_int) (fun _ _ => rfl)))
    (pss_cons (ps_set (i := 3) nd rfl (by first | exact Or.inl rfl | exact Or.inr rfl) (pe_op op_mod (pe_callTy c_int (by rfl) T.f_int (by decide +kernel) (pa_cons (pe_op op_powW (pe_callTy c_int (by rfl) T.f_int (by decide +kernel) (pa_cons (pe_op op_add (pe_op op_add (pe_ix (ki_ixL (K := K)) (pv 0) pe_int (fun _ _ => rfl)) (pe_op op_mul (pe_op op_mul pe_int (pe_ix (ki_ixL (K := K)) (pv 0) pe_int (fun _ _ => rfl))) (pe_ix (ki_ixL (K := K)) (pv 0) pe_int (fun _ _ => rfl)))) pe_int) pa_nil)) pe_int) pa_nil)) (pv 2)))
    (pss_cons (ps_set (i := 3) nd rfl (by first | exact Or.inl rfl | exact Or.inr rfl) (pe_op op_mod (pe_callTy c_int (by rfl) T.f_int (by decide +kernel) (pa_cons (pe_op op_mul (pv 3) (pe_op op_add (pe_op op_mod (pe_callTy c_int (by rfl) T.f_int (by decide +kernel) (pa_cons (pv 3) pa_nil)) pe_int) (pe_op op_mul pe_int (pe_ix (ki_ixL (K := K)) (pv 0) pe_int (fun _ _ => rfl))))) pa_nil)) pe_int))
    (pss_one (ps_ret (pe_op op_mod (pe_callTy c_int (by rfl) T.f_int (by decide +kernel) (pa_cons (pe_op op_fdiv (pv 3) pe_int) pa_nil)) (pv 1))))))))), ?_⟩
  walk_at "aa"
  refine a_ixL hp rfl ?_
  walk_at "aa"
  refine iteD (fun c1 => ?_) (fun c1 => ?_)
  · walk_at "aa"
    refine a_ixL hp rfl ?_
    walk_at "aa"
    refine a_riC hu0 ?_
    walk_at "aa"
    refine a_ixL hp rfl ?_
    walk_at "aa"
    refine a_riC ⟨hu0, by omega⟩ ?_
    refine a_gsub ?_
    walk_at "aa"
    refine a_setL (j := 0) hp rfl ?_
    walk_at "aa"
    exact k _ _ (Int.emod_nonneg _ (by omega)) (Int.emod_lt_of_pos _ hu0) (But.refl.upd) ⟨own / u, seed, cnt, upd_same, Int.ediv_nonneg ho (by omega), hs0, hs1, hc0, by omega⟩
  · walk_at "aa"
    refine a_ixL hp rfl ?_
    walk_at "aa"
    refine a_gsub ?_
    walk_at "aa"
    refine a_setL (j := 2) hp rfl ?_
    have hp2 : upd H p (.lst ([V.int own, V.int seed, V.int cnt].set 2 (.int (cnt + 1)))) p = some (.lst [.int own, .int seed, .int (cnt + 1)]) := upd_same
    have b2 : But p H (upd H p (.lst ([V.int own, V.int seed, V.int cnt].set 2 (.int (cnt + 1))))) := But.refl.upd
    generalize upd H p (.lst ([V.int own, V.int seed, V.int cnt].set 2 (.int (cnt + 1)))) = H2 at *
    walk_at "aa"
    refine ⟨by show 5 ≤ sizeLine; decide, fun t3 n3 => ?_⟩
    have s3 := same_new (o := .lst [.int 2147483647, .int 2147483629, .int 2147483587, .int 2147483579, .int 2147483563]) n3
    walk_at "aa"
    refine a_ixL (s3 _ _ hp2) rfl ?_
    walk_at "aa"
    refine a_riC (by decide) ?_
    have pr : ∃ q : Int, atI [V.int 2147483647, V.int 2147483629, V.int 2147483587, V.int 2147483579, V.int 2147483563] ((cnt + 1) % 5) = some (.int q) ∧ 1000 < q ∧ q < 2 ^ 31 := by
      have h0 := Int.emod_nonneg (cnt + 1) (show (5 : Int) ≠ 0 by decide)
      have h1 := Int.emod_lt_of_pos (cnt + 1) (show (0 : Int) < 5 by decide)
      have : (cnt + 1) % 5 = 0 ∨ (cnt + 1) % 5 = 1 ∨ (cnt + 1) % 5 = 2 ∨ (cnt + 1) % 5 = 3 ∨ (cnt + 1) % 5 = 4 := by omega
      rcases this with e | e | e | e | e <;> rw [e]
      · exact ⟨_, rfl, by decide, by decide⟩
      · exact ⟨_, rfl, by decide, by decide⟩
      · exact ⟨_, rfl, by decide, by decide⟩
      · exact ⟨_, rfl, by decide, by decide⟩
      · exact ⟨_, rfl, by decide, by decide⟩
    obtain ⟨q, eq, q0, q1⟩ := pr
    refine a_ixL upd_same eq ?_
    have hp3 := s3 _ _ hp2
    have b3 := b2.same s3
    generalize upd H2 t3 (.lst [.int 2147483647, .int 2147483629, .int 2147483587, .int 2147483579, .int 2147483563]) = H3 at *
    walk_at "aa"
    refine a_ixL hp3 rfl ?_
    walk_at "aa"
    refine a_ixL hp3 rfl ?_
    refine a_riC (.inl ⟨by decide, by decide⟩) ?_
    walk_at "aa"
    refine a_ixL hp3 rfl ?_
    refine a_riC (.inr ⟨by omega, by omega⟩) ?_
    walk_at "aa"
    have hsq : 0 ≤ 99989 * (cnt + 1) * (cnt + 1) ∧ 99989 * (cnt + 1) * (cnt + 1) ≤ 99989 * 1000001 * 1000001 := by
      have h1 : 0 ≤ 99989 * (cnt + 1) := by omega
      have h2 : 99989 * (cnt + 1) ≤ 99989 * 1000001 := by omega
      exact ⟨Int.mul_nonneg h1 (by omega), Int.mul_le_mul h2 (by omega) (by omega) (by decide)⟩
    refine a_riC (pow3 (by omega) (by omega)) ?_
    walk_at "aa"
    refine a_riC (show (0 : Int) < q by omega) ?_
    walk_at "aa"
    have st := Int.emod_nonneg ((seed + 99989 * (cnt + 1) * (cnt + 1) + 71) ^ (3 : Int).toNat) (show q ≠ 0 by omega)
    have st2 := Int.emod_lt_of_pos ((seed + 99989 * (cnt + 1) * (cnt + 1) + 71) ^ (3 : Int).toNat) (show (0 : Int) < q by omega)
    generalize (seed + 99989 * (cnt + 1) * (cnt + 1) + 71) ^ (3 : Int).toNat % q = z at *
    refine a_riC (by decide) ?_
    walk_at "aa"
    refine a_ixL hp3 rfl ?_
    refine a_riC (.inl ⟨by decide, by decide⟩) ?_
    walk_at "aa"
    refine a_riC (.inl ⟨by omega, by omega⟩) ?_
    walk_at "aa"
    refine a_riC (by decide) ?_
    walk_at "aa"
    refine a_riC ⟨by decide, by decide⟩ ?_
    walk_at "aa"
    refine a_riC hu0 ?_
    exact k _ _ (Int.emod_nonneg _ (by omega)) (Int.emod_lt_of_pos _ hu0) b3 ⟨own, seed, cnt + 1, hp3, ho, hs0, hs1, by omega, by omega⟩
end QB
set_option Elab.async false
set_option linter.all false
set_option maxRecDepth 100000
set_option maxHeartbeats 4000000

namespace QB
open PySem PySem.Spec L2
open PyProof.Rows (envOfC)
open PySem.PyData (strOk)
open RZ (Ty4 rIsTy call_isTy pi_zipA iZipA ItzT for_zipT for_zipL)
open StX (tStar pa_star)
open QS (SrtR tSrt rSrtI rSrtS rSrtT)
open QT (AllQ Ole Olt)
local macro_rules | `(tactic| walk_at "hp") => `(tactic| first | assumption | exact upd_same | (refine sg (by assumption) ?_; walk_at "hp"))
local macro_rules | `(tactic| walk_at "a") => `(tactic| first
  | with_reducible refine a_seq ?_ | with_reducible refine a_asg ?_ | with_reducible refine a_drop ?_ | with_reducible refine a_ret ?_ | with_reducible refine a_retN ?_
  | with_reducible refine a_ifS ?_ | with_reducible refine a_next ?_ | with_reducible refine a_gname ?_ | with_reducible refine a_nx ?_ | with_reducible refine a_rt ?_ | with_reducible refine a_bk ?_ | with_reducible refine a_ct ?_
  | ((with_reducible show tVar _ _ _ _); refine a_var rfl ?_) | with_reducible refine a_c ?_ | with_reducible refine a_op ?_ | with_reducible refine a_un ?_ | with_reducible refine a_cb ?_ | with_reducible refine a_nil ?_ | with_reducible refine a_cons ?_
  | with_reducible refine a_call ?_ | with_reducible refine a_meth ?_ | with_reducible refine a_make ?_ | with_reducible refine a_test ?_ | with_reducible refine a_tTest ?_ | with_reducible refine a_tand ?_ | with_reducible refine a_tor ?_ | with_reducible refine a_tnot ?_
  | with_reducible refine a_and ?_ | with_reducible refine a_or ?_ | with_reducible refine a_not ?_ | with_reducible refine a_if ?_ | with_reducible refine a_ri0 ?_ | with_reducible refine a_tup ?_ | with_reducible refine a_lst ?_
  | with_reducible refine a_bl ?_ | with_reducible refine a_sfld ?_ | with_reducible refine a_exI ?_ | with_reducible refine a_exZ ?_ | with_reducible refine a_chain ?_ | with_reducible refine a_lc ?_ | with_reducible refine a_yes ?_ | with_reducible refine a_gcons ?_ | with_reducible refine a_gnil ?_ | with_reducible refine w_list ?_ | with_reducible refine w_tup ?_ | with_reducible refine w_str ?_ | with_reducible refine w_rng1 ?_ | with_reducible refine w_zip ?_ | with_reducible refine w_zipA ?_
  | with_reducible refine a_tFld ?_ | with_reducible refine a_dget ?_ | with_reducible refine a_din ?_ | with_reducible refine a_dnin ?_ | with_reducible refine a_sl ?_ | with_reducible refine a_slNone ?_ | with_reducible refine a_slSome ?_
  | with_reducible refine a_isN ?_ | with_reducible refine a_notN ?_ | with_reducible refine a_eqI ?_ | with_reducible refine a_neI ?_ | with_reducible refine a_eqZ ?_ | with_reducible refine a_neZ ?_ | with_reducible refine a_ltZ ?_ | with_reducible refine a_int ?_ | with_reducible refine a_intB ?_ | with_reducible refine a_abs ?_ | with_reducible refine a_max2 ?_ | with_reducible refine a_min2 ?_ | with_reducible refine a_bm ?_
  | ((with_reducible show rLenQ _ _ _ _); first | refine a_lenT (by walk_at "hp") ?_ | refine a_lenL (by walk_at "hp") ?_)
  | with_reducible refine a_prsC ?_ | with_reducible refine a_prsN ?_ | with_reducible refine a_for ?_ | with_reducible refine a_dput ?_ | with_reducible refine w_keys ?_ | with_reducible refine w_listT ?_
  | with_reducible refine QB.a_rU ?_ | with_reducible refine QB.a_cKw ?_ | with_reducible refine QB.a_star ?_ | with_reducible refine QB.a_dget2 ?_
  | with_reducible refine QB.a_par ?_ | with_reducible refine QB.a_par3 ?_
  | with_reducible refine QB.a_srt ?_
  | with_reducible refine QB.a_dc ?_
  | with_reducible refine iteT ?_ | with_reducible refine iteNT ?_ | with_reducible refine iteNF ?_ | with_reducible refine iteF ?_ | with_reducible refine a_prop ?_)
local macro_rules | `(tactic| walk_at "aa") => `(tactic| (walk_at "a"; repeat walk_at "a"))

variable {P : Program} {w : World} {K : PySem.W.Frag} {mg : Str → Option Value} {base : Heap} {CN CC : Addr}
theorem cell_any {K : PySem.W.Frag} {H : Hp} {S : VK} {a : Addr} {ns : List Int} {k : Int} {σ : L2.St} (hS : SqL K H a (ns.map V.int)) (k0 : 0 ≤ k) (e0 : σ[0]? = some (some (.ref a))) (e1 : σ[1]? = some (some (.int k))) (h : ∀ z : Int, S (.int z) H) :
    tIf (tTest (tOp (rI0 fun i j => V.bl (decide (i < j))) (tVar 1) (tCB (rLenQ K) (tCons (tVar 0) tNil)))) (tOp (rIxL K) (tVar 0) (tVar 1)) (tOp (rI0 fun i j => V.int (i + j)) (tOp (rI CMul fun i j => V.int (i * j)) (tC (.int 43)) (tVar 1)) (tC (.int 29))) σ H S := by
  refine a_if (a_tTest (a_op (a_var e1 (a_cb (a_cons (a_var e0 (a_nil ?_)))))))
  refine ⟨a, _, rfl, .inl hS, ?_⟩
  refine a_ri0 ?_
  refine a_bl ?_
  refine iteD (fun c => ?_) (fun c => ?_)
  · refine a_op (a_var e0 (a_var e1 ?_))
    have hk : k.toNat < ns.length := by simp at c; omega
    refine ⟨a, _, k, .int ns[k.toNat], rfl, rfl, hS, ?_, h _⟩
    unfold atI ixN
    rw [if_pos k0, if_pos (by simpa using c)]
    simp [hk]
  · refine a_op (a_op (a_c (a_var e1 (a_riC (.inl ⟨by decide, by decide⟩) (a_c (a_ri0 (h _)))))))
def spPot (K : PySem.W.Frag) : Sp := fun vs H Q _ => ∃ (a : Addr) (ns : List Int) (k : Int), vs = [.ref a, .int k] ∧ SqL K H a (ns.map V.int) ∧ 0 ≤ k ∧ k ≤ 1000 ∧ ∀ (p : Addr) (H' : Hp), H p = none → Same H H' → PotAt H' p 0 → Q (.ref p) H'
abbrev N__law_pot : List Str := ["_law_script", "_law_k", "_law_cell", "_law_own"]
theorem sc__law_pot : FnScope N__law_pot ["_law_script", "_law_k"] (defScope QH.s__law_pot) := ⟨rfl, rfl, rfl, by decide +kernel, rfl, by decide +kernel, by decide +kernel⟩
theorem D_law_pot (T : Tx P w K mg base CN CC) (F : FunAt K mg "_law_pot" QH.s__law_pot) : DefOk P w K mg base "_law_pot" ["_law_script", "_law_k"] (spPot K) 1 := by
  refine mk_def F sc__law_pot (fun _ _ _ _ _ _ us hl => match us, hl with | [_, _], _ => rfl) (fun vs H Q E h => by obtain ⟨a, ns, k, rfl, _⟩ := h; rfl) (fun f cdv A outer s0 H vs Q E hr h => ?_)
  have nd := sc__law_pot.nd
  obtain ⟨a, ns, k, rfl, hS, k0, k1, q⟩ := h
  refine ⟨_, (pss_cons (ps_set (i := 2) nd rfl (by first | exact Or.inl rfl | exact Or.inr rfl) (pe_ifExp (pt_cmpR op_lt (pv 1) (pe_callB (ki_len (K := K)) (by rfl) T.f_len (by decide +kernel) (pa_cons (pv 0) pa_nil)) (nomark _)) (pe_ix (ki_ixL (K := K)) (pv 0) (pv 1) (fun _ _ => rfl)) (pe_op op_add (pe_op op_mul pe_int (pv 1)) pe_int)))
    (pss_cons (ps_set (i := 3) nd rfl (by first | exact Or.inl rfl | exact Or.inr rfl) (pe_op op_mul (pe_op op_mod (pe_callTy c_int (by rfl) T.f_int (by decide +kernel) (pa_cons (pe_callB c_abs (by rfl) T.f_abs (by decide +kernel) (pa_cons (pv 2) pa_nil)) pa_nil)) (pe_op op_powW (pe_op op_powW pe_int pe_int) pe_int)) (pe_callTy c_int (by rfl) T.f_int (by decide +kernel) (pa_cons (pe_cmpR op_ge (pe_callB c_abs (by rfl) T.f_abs (by decide +kernel) (pa_cons (pv 2) pa_nil)) (pe_op op_powW pe_int pe_int) (nomark _)) pa_nil))))
    (pss_one (ps_ret (pe_lst (pa_cons (pv 3) (pa_cons (pe_op op_mod (pe_callTy c_int (by rfl) T.f_int (by decide +kernel) (pa_cons (pe_op op_add (pe_op op_add (pe_op op_mul (pe_op op_mod (pe_callTy c_int (by rfl) T.f_int (by decide +kernel) (pa_cons (pv 2) pa_nil)) pe_int) pe_int) (pe_op op_mul (pe_op op_mul pe_int (pv 1)) (pv 1))) pe_int) pa_nil)) pe_int) (pa_cons pe_int pa_nil)))))))), ?_⟩
  walk_at "a"
  walk_at "a"
  refine cell_any hS k0 rfl rfl fun z => ?_
  walk_at "aa"
  refine a_riC (show CPowW 10 60 from ⟨by decide, by decide +kernel⟩) ?_
  walk_at "aa"
  refine a_riC (show CPowW ((10 : Int) ^ (60 : Int).toNat) 5 from ⟨by decide, by decide +kernel⟩) ?_
  have big : 0 < ((10 : Int) ^ (60 : Int).toNat) ^ (5 : Int).toNat := by decide +kernel
  generalize ((10 : Int) ^ (60 : Int).toNat) ^ (5 : Int).toNat = M at *
  refine a_riC big ?_
  walk_at "aa"
  refine a_riC (show CPowW 10 18 from ⟨by decide, by decide +kernel⟩) ?_
  walk_at "aa"
  have own0 : ∀ x : Int, 0 ≤ x % M := fun x => Int.emod_nonneg _ (by omega)
  generalize decide ((10 : Int) ^ (18 : Int).toNat ≤ if z < 0 then -z else z) = bb at *
  refine a_riC (.inr (by cases bb <;> decide)) ?_
  walk_at "aa"
  refine a_riC (by decide) ?_
  walk_at "aa"
  have m0 := Int.emod_nonneg z (show (2305843009213693951 : Int) ≠ 0 by decide)
  have m1 := Int.emod_lt_of_pos z (show (0 : Int) < 2305843009213693951 by decide)
  refine a_riC (.inl ⟨by omega, by omega⟩) ?_
  walk_at "aa"
  refine a_riC (.inl ⟨by decide, by decide⟩) ?_
  walk_at "aa"
  refine a_riC (.inr ⟨by omega, by omega⟩) ?_
  walk_at "aa"
  refine a_riC (by decide) ?_
  walk_at "aa"
  refine ⟨by show 3 ≤ sizeLine; decide, fun p np => q p _ np (same_new np) ⟨_, _, _, upd_same, ?_, Int.emod_nonneg _ (by decide), Int.lt_of_lt_of_le (Int.emod_lt_of_pos _ (by decide)) (by decide), by decide, by decide⟩⟩
  exact Int.mul_nonneg (own0 _) (by cases bb <;> decide)
/-! ### comprehensions that make lists and change them -/
def LcPutB (F : Hp) (D : Addr) (R : Nat → List V → Hp → Prop) (i : Nat) (y : V) (H : Hp) : Prop := LcPut F D R i y H
theorem lcB_put {F : Hp} {D : Addr} {R : Nat → List V → Hp → Prop} {H : Hp} {acc : List V} {y : V} {i : Nat} (hn : i < 100000) (hD : F D = Option.none) (st : ∀ i acc H H', But D H H' → R i acc H → R i acc H') (s : Same F H) (h : H D = some (.lst acc)) (l : acc.length ≤ i) (r : R (i + 1) (acc ++ [y]) H) : LcPut F D R i y H :=
  ⟨acc, h, Nat.lt_of_le_of_lt l (Nat.lt_of_lt_of_le hn (by decide)), _, same_mut s hD, upd_same, by simp; omega, st _ _ _ _ But.refl.upd r⟩
theorem lcB_go {J : It} {F : Hp} {n : Nat} {Y : Nat → V → Hp → Prop} {g : TG} {tt : TT} {te : TE} {vs : List Nat} {σ : L2.St} {D : Addr} {Q : VK} {H1 : Hp} (ok : ItOk J F n Y) (hF : Same F H1) (hD : H1 D = Option.none) (R : Nat → List V → Hp → Prop) (h0 : R 0 [] H1) (st : ∀ i acc H H', But D H H' → R i acc H → R i acc H')
    (turn : ∀ i acc H x, i < n → Same F H → H D = some (.lst acc) → acc.length ≤ i → R i acc H → Y i x H → g x (wipe σ vs) H fun σ2 H2 => wipe σ2 vs = wipe σ vs ∧ tt σ2 H2 fun b H3 =>
      if b = true then te σ2 H3 fun y H4 => LcPut F D R i y H4 else LcN F D R (i + 1) H3)
    (done : ∀ acc H, Same F H → H D = some (.lst acc) → acc.length ≤ n → R n acc H → Q (.ref D) H) : LcW J g tt te vs σ H1 D Q := by
  refine ⟨fun i m H => m = n - i ∧ i ≤ n ∧ LcN F D R i H, ⟨n, by simp, Nat.zero_le _, [], fun b u e => ?_, upd_same, Nat.le_refl _, st _ _ _ _ But.refl.upd h0⟩, ?_⟩
  · rw [upd_ne (ne_of_none (hF _ _ e) hD)]; exact hF _ _ e
  · rintro i m H ⟨rfl, hi, acc, s, h, l, r⟩
    by_cases hlt : i < n
    · refine .inr ⟨ok.go i H s hlt, LcN F D R (i + 1), fun H' p' => ⟨n - (i + 1), by omega, rfl, hlt, p'⟩, fun x H' y => ?_⟩
      obtain ⟨s', y'⟩ := ok.yld i H x H' s hlt y
      exact turn i acc H' x hlt (s.trans s') (s' _ _ h) l (st _ _ _ _ (But.of s') r) y'
    · have e : i = n := by omega
      subst e
      exact .inl ⟨ok.stop H s, done acc H s h l r⟩
theorem PotAt.but {H H' : Hp} {p q : Addr} {c : Nat} (b : But q H H') (ne : p ≠ q) (h : PotAt H p c) : PotAt H' p c := by
  obtain ⟨o, s, n, e, r⟩ := h
  exact ⟨o, s, n, b _ _ ne e, r⟩
theorem seqL {K : PySem.W.Frag} {H H' : Hp} {a : Addr} {xs : List V} (s : Same H H') (h : SqL K H a xs) : SqL K H' a xs := by
  rcases h with (h | ⟨o, h⟩) | h
  · exact .inl (.inl (s _ _ h))
  · exact .inl (.inr ⟨o, s _ _ h⟩)
  · exact .inr h
def spPots (K : PySem.W.Frag) : Sp := fun vs H Q _ => ∃ (a : Addr) (ns : List Int), vs = [.ref a, .int 3] ∧ SqL K H a (ns.map V.int) ∧ ∀ (p : Addr) (H' : Hp) (ps : List Addr), Same H H' → H' p = some (.lst (ps.map V.ref)) → ps.length ≤ 3 → ps.Nodup → (∀ q ∈ ps, PotAt H' q 0) → Q (.ref p) H'
abbrev N__law_pots : List Str := ["_law_script", "_law_most", "_law_k"]
theorem sc__law_pots : FnScope N__law_pots ["_law_script", "_law_most"] (defScope QH.s__law_pots) := ⟨rfl, rfl, rfl, by decide +kernel, rfl, by decide +kernel, by decide +kernel⟩
theorem D_law_pots (T : Tx P w K mg base CN CC) (F : FunAt K mg "_law_pots" QH.s__law_pots) (D_law_pot : DefOk P w K mg base "_law_pot" ["_law_script", "_law_k"] (spPot K) 1) : DefOk P w K mg base "_law_pots" ["_law_script", "_law_most"] (spPots K) 2 := by
  refine mk_def F sc__law_pots (fun _ _ _ _ _ _ us hl => match us, hl with | [_, _], _ => rfl) (fun vs H Q E h => by obtain ⟨a, ns, rfl, _⟩ := h; rfl) (fun f cdv A outer s0 H vs Q E hr h => ?_)
  have nd := sc__law_pots.nd
  obtain ⟨a, ns, rfl, hS, q⟩ := h
  refine ⟨_, (pss_one (ps_ret (pe_lc (own := [("_law_k", 2)]) (g := (gName 2)) (tt := tYes) rfl nd (pi_range1 (by rfl) T.f_range (pa_cons (pe_callB (c_max2 rfl) (by rfl) T.f_max (by decide +kernel) (pa_cons pe_int (pa_cons (pe_callB (c_min2 rfl) (by rfl) T.f_min (by decide +kernel) (pa_cons (pe_callTy c_int (by rfl) T.f_int (by decide +kernel) (pa_cons (pv 1) pa_nil)) (pa_cons (pe_callB (ki_len (K := K)) (by rfl) T.f_len (by decide +kernel) (pa_cons (pv 0) pa_nil)) pa_nil))) pa_nil))) pa_nil)) (blkOk_by (by with_unfolding_all rfl)) (fun _ _ _ _ _ => (pg_name (i := 2) nd rfl (by first | exact Or.inl rfl | exact Or.inr rfl))) (fun _ _ _ _ _ => pts_nil) (fun _ _ _ _ _ => (pe_callD D_law_pot (hr.mono (by decide)) (by rfl) (pa_cons (pv 0) (pa_cons (pv 2) pa_nil))))))), ?_⟩
  walk_at "aa"
  refine ⟨a, _, rfl, .inl hS, ?_⟩
  walk_at "aa"
  have hn : ∃ n : Nat, n ≤ 3 ∧ (if (if ((ns.map V.int).length : Int) < 3 then ((ns.map V.int).length : Int) else 3) > 1 then (if ((ns.map V.int).length : Int) < 3 then ((ns.map V.int).length : Int) else 3) else 1) = (n : Int) := by
    generalize (ns.map V.int).length = m
    by_cases h1 : (m : Int) < 3
    · rw [if_pos h1]
      by_cases h2 : (m : Int) > 1
      · rw [if_pos h2]; exact ⟨m, by omega, rfl⟩
      · rw [if_neg h2]; exact ⟨1, by decide, rfl⟩
    · rw [if_neg h1]; exact ⟨3, by decide, rfl⟩
  obtain ⟨n, n3, en⟩ := hn
  rw [en]
  refine ⟨n, rfl, by omega, by omega, fun D nD => ?_⟩
  refine lcB_go (F := H) (n := n) (it_range 0 n) (Same.refl H) nD (fun i acc H' => ∃ ps : List Addr, acc = ps.map V.ref ∧ ps.Nodup ∧ ∀ q ∈ ps, q ≠ D ∧ PotAt H' q 0) ⟨[], rfl, .nil, fun _ h => nomatch h⟩ ?_ ?_ ?_
  · rintro i acc Ha Hb b ⟨ps, e, nd, hp⟩
    exact ⟨ps, e, nd, fun q hq => ⟨(hp q hq).1, (hp q hq).2.but b (hp q hq).1⟩⟩
  · rintro i acc H2 x hi sF hD lc ⟨ps, rfl, nd2, hps⟩ rfl
    walk_at "aa"
    refine ⟨rfl, ?_⟩
    walk_at "aa"
    refine ⟨a, ns, _, rfl, seqL sF hS, by omega, by omega, fun p H3 np s3 hp => ?_⟩
    have pD : p ≠ D := by rintro rfl; rw [hD] at np; cases np
    refine lcB_put (by omega) nD ?_ (sF.trans s3) (s3 _ _ hD) lc ⟨ps ++ [p], by simp, ?_, fun q hq => ?_⟩
    · rintro i acc Ha Hb b ⟨ps, e, nd, hp⟩
      exact ⟨ps, e, nd, fun q hq => ⟨(hp q hq).1, (hp q hq).2.but b (hp q hq).1⟩⟩
    · refine List.nodup_append.mpr ⟨nd2, by simp, fun u hu v hv => ?_⟩
      rintro rfl
      rw [List.mem_singleton] at hv
      subst hv
      obtain ⟨xs, e⟩ := (hps u hu).2.some
      rw [e] at np; cases np
    · rcases List.mem_append.mp hq with hq | hq
      · exact ⟨(hps q hq).1, (hps q hq).2.same s3⟩
      · rw [List.mem_singleton.mp hq]; exact ⟨pD, hp⟩
  · rintro acc H2 sF hD lc ⟨ps, rfl, nd2, hps⟩
    exact q D H2 ps sF hD (by simp at lc; omega) nd2 fun q hq => (hps q hq).2
/-! ### one of some -/
def spOf : Sp := fun vs H Q _ => ∃ (p : Addr) (c : Nat), PotAt H p c ∧ c ≤ 1000000 ∧
  ((∃ (s : Addr) (xs : List V), vs = [.ref p, .ref s] ∧ H s = some (.lst xs) ∧ s ≠ p ∧ xs ≠ [] ∧ xs.length ≤ 1000 ∧ ∀ (v : V) (H' : Hp), v ∈ xs → But p H H' → PotAt H' p (c + 1) → Q v H') ∨
   (∃ (s : Addr) (xs : List V), vs = [.ref p, .ref s] ∧ H s = some (.tup xs) ∧ xs ≠ [] ∧ xs.length ≤ 1000 ∧ ∀ (v : V) (H' : Hp), v ∈ xs → But p H H' → PotAt H' p (c + 1) → Q v H') ∨
   (∃ z : Str, vs = [.ref p, .str z] ∧ 0 < z.length ∧ z.length ≤ 1000 ∧ ∀ (ch : Nat) (H' : Hp), ch ∈ z.cps.toList → But p H H' → PotAt H' p (c + 1) → Q (.str ⟨#[ch]⟩) H'))
theorem at_in {α : Type} {xs : List α} {r : Int} (h0 : 0 ≤ r) (h1 : r < (xs.length : Int)) : ∃ v ∈ xs, atI xs r = some v := by
  have hk : r.toNat < xs.length := by omega
  refine ⟨xs[r.toNat], List.getElem_mem hk, ?_⟩
  unfold atI ixN
  rw [if_pos h0, if_pos h1]
  simp [hk]
abbrev N__law_of : List Str := ["_law_pot_here", "_law_some"]
theorem sc__law_of : FnScope N__law_of ["_law_pot_here", "_law_some"] (defScope QH.s__law_of) := ⟨rfl, rfl, rfl, by decide +kernel, rfl, by decide +kernel, by decide +kernel⟩
theorem D_law_of (T : Tx P w K mg base CN CC) (F : FunAt K mg "_law_of" QH.s__law_of) (D_law_take : DefOk P w K mg base "_law_take" ["_law_pot_here", "_law_upto"] spTake 1) : DefOk P w K mg base "_law_of" ["_law_pot_here", "_law_some"] spOf 2 := by
  refine mk_def F sc__law_of (fun _ _ _ _ _ _ us hl => match us, hl with | [_, _], _ => rfl) (fun vs H Q E h => by obtain ⟨p, c, _, _, ⟨s, xs, rfl, _⟩ | ⟨s, xs, rfl, _⟩ | ⟨z, rfl, _⟩⟩ := h <;> rfl) (fun f cdv A outer s0 H vs Q E hr h => ?_)
  have nd := sc__law_of.nd
  obtain ⟨p, c, hp, hc, ⟨s, xs, rfl, hs, sp, ne, l, k⟩ | ⟨s, xs, rfl, hs, ne, l, k⟩ | ⟨z, rfl, z0, z1, k⟩⟩ := h
  · refine ⟨_, (pss_one (ps_ret (pe_ix (ki_ixL (K := K)) (pv 1) (pe_callD D_law_take (hr.mono (by decide)) (by rfl) (pa_cons (pv 0) (pa_cons (pe_callB (ki_len (K := K)) (by rfl) T.f_len (by decide +kernel) (pa_cons (pv 1) pa_nil)) pa_nil))) (fun _ _ => rfl)))), ?_⟩
    have l0 := List.length_pos_iff.mpr ne
    walk_at "aa"
    refine ⟨p, _, c, rfl, hp, hc, by omega, by omega, fun r H1 r0 r1 b1 hp1 => ?_⟩
    obtain ⟨v, hv, ev⟩ := at_in r0 r1
    exact a_ixL (b1 _ _ sp hs) ev (k v H1 hv b1 hp1)
  · refine ⟨_, (pss_one (ps_ret (pe_ix (ki_ixT (K := K)) (pv 1) (pe_callD D_law_take (hr.mono (by decide)) (by rfl) (pa_cons (pv 0) (pa_cons (pe_callB (ki_len (K := K)) (by rfl) T.f_len (by decide +kernel) (pa_cons (pv 1) pa_nil)) pa_nil))) (fun _ _ => rfl)))), ?_⟩
    have l0 := List.length_pos_iff.mpr ne
    walk_at "aa"
    refine ⟨p, _, c, rfl, hp, hc, by omega, by omega, fun r H1 r0 r1 b1 hp1 => ?_⟩
    obtain ⟨v, hv, ev⟩ := at_in r0 r1
    exact a_ixT (b1.tup hp hs) ev (k v H1 hv b1 hp1)
  · refine ⟨_, (pss_one (ps_ret (pe_ix ix_str (pv 1) (pe_callD D_law_take (hr.mono (by decide)) (by rfl) (pa_cons (pv 0) (pa_cons (pe_callB c_lenZ (by rfl) T.f_len (by decide +kernel) (pa_cons (pv 1) pa_nil)) pa_nil))) (fun _ _ => rfl)))), ?_⟩
    walk_at "aa"
    refine ⟨z, rfl, Nat.le_trans z1 (by decide), ?_⟩
    walk_at "aa"
    refine ⟨p, _, c, rfl, hp, hc, by omega, by omega, fun r H1 r0 r1 b1 hp1 => ?_⟩
    obtain ⟨v, hv, ev⟩ := at_in (xs := z.cps.toList) r0 (by simpa using (show r < ((z.cps.size : Nat) : Int) from r1))
    exact ⟨z, r, v, rfl, rfl, Nat.le_trans z1 (by decide), ev, k v H1 hv b1 hp1⟩
theorem But.none {p q : Addr} {H H' : Hp} {c : Nat} (b : But p H H') (h : PotAt H' p c) (e : H' q = none) : H q = none := by
  cases g : H q with
  | none => rfl
  | some o =>
    have ne := h.ne e
    rw [b _ _ ne g] at e; cases e
def spTurned : Sp := fun vs H Q _ => ∃ (p s : Addr) (c : Nat) (xs : List V), vs = [.ref p, .ref s] ∧ PotAt H p c ∧ c ≤ 900000 ∧ H s = some (.lst xs) ∧ s ≠ p ∧ xs ≠ [] ∧ xs.length ≤ 400 ∧ ∀ (t : Addr) (H' : Hp) (ys : List V), H t = none → ys.Perm xs → H' t = some (.lst ys) → But p H H' → PotAt H' p (c + 2) → Q (.ref t) H'
abbrev N__law_turned : List Str := ["_law_pot_here", "_law_some", "_law_at", "_law_row"]
theorem sc__law_turned : FnScope N__law_turned ["_law_pot_here", "_law_some"] (defScope QH.s__law_turned) := ⟨rfl, rfl, rfl, by decide +kernel, rfl, by decide +kernel, by decide +kernel⟩
theorem D_law_turned (T : Tx P w K mg base CN CC) (F : FunAt K mg "_law_turned" QH.s__law_turned) (D_law_take : DefOk P w K mg base "_law_take" ["_law_pot_here", "_law_upto"] spTake 1) : DefOk P w K mg base "_law_turned" ["_law_pot_here", "_law_some"] spTurned 2 := by
  refine mk_def F sc__law_turned (fun _ _ _ _ _ _ us hl => match us, hl with | [_, _], _ => rfl) (fun vs H Q E h => by obtain ⟨p, s, c, xs, rfl, _⟩ := h; rfl) (fun f cdv A outer s0 H vs Q E hr h => ?_)
  have nd := sc__law_turned.nd
  obtain ⟨p, s, c, xs, rfl, hp, hc, hs, sp, ne, l, k⟩ := h
  refine ⟨_, (pss_cons (ps_set (i := 2) nd rfl (by first | exact Or.inl rfl | exact Or.inr rfl) (pe_callD D_law_take (hr.mono (by decide)) (by rfl) (pa_cons (pv 0) (pa_cons (pe_callB (ki_len (K := K)) (by rfl) T.f_len (by decide +kernel) (pa_cons (pv 1) pa_nil)) pa_nil))))
    (pss_cons (ps_set (i := 3) nd rfl (by first | exact Or.inl rfl | exact Or.inr rfl) (pe_op op_cat (pe_slice (ki_slL (K := K)) (pv 1) (po_some (pv 2)) po_none) (pe_slice (ki_slL (K := K)) (pv 1) po_none (po_some (pv 2)))))
    (pss_one (ps_ret (pe_ifExp (pt_cmpR op_eq (pe_callD D_law_take (hr.mono (by decide)) (by rfl) (pa_cons (pv 0) (pa_cons pe_int pa_nil))) pe_int (nomark _)) (pe_revL (pv 3)) (pv 3)))))), ?_⟩
  have l0 := List.length_pos_iff.mpr ne
  walk_at "aa"
  refine ⟨p, _, c, rfl, hp, by omega, by omega, by omega, fun r H1 r0 r1 b1 hp1 => ?_⟩
  have hs1 := b1 _ _ sp hs
  walk_at "aa"
  refine a_slL hs1 fun t2 H2 n2 s2 h2 => ?_
  walk_at "aa"
  refine a_slL (s2 _ _ hs1) fun t3 H3 n3 s3 h3 => ?_
  have e2 : H2 t2 = some (.lst (xs.drop r.toNat)) := by rwa [cut_drop (show r = ((r.toNat : Nat) : Int) by omega)] at h2
  have e3 : H3 t3 = some (.lst (xs.take r.toNat)) := by rwa [cut_take (show r = ((r.toNat : Nat) : Int) by omega)] at h3
  refine a_cat (s3 _ _ e2) e3 (by simp; omega) fun t4 H4 n4 s4 h4 => ?_
  have s14 : Same H1 H4 := fun b o e => s4 _ _ (s3 _ _ (s2 _ _ e))
  have n14 : H1 t4 = none := by
    cases g : H1 t4 with
    | none => rfl
    | some o => rw [s3 _ _ (s2 _ _ g)] at n4; cases n4
  have h4 : H4 t4 = some (.lst (xs.drop r.toNat ++ xs.take r.toNat)) := h4
  have pe : (xs.drop r.toNat ++ xs.take r.toNat).Perm xs := by
    have := (List.perm_append_comm (l₁ := xs.drop r.toNat) (l₂ := xs.take r.toNat))
    rwa [List.take_append_drop] at this
  generalize xs.drop r.toNat ++ xs.take r.toNat = ys at *
  have hp4 := hp1.same s14
  have ne4 := hp1.ne n14
  walk_at "aa"
  refine ⟨p, _, c + 1, rfl, hp4, by omega, by decide, by decide, fun r2 H5 r20 r21 b5 hp5 => ?_⟩
  have b05 : But p H H5 := fun b o e h => b5 _ _ e (s14 _ _ (b1 _ _ e h))
  have h5 := b5 _ _ ne4 h4
  have n04 := b1.none hp1 n14
  walk_at "aa"
  refine iteD (fun c1 => ?_) (fun c1 => ?_)
  · refine a_revL ?_
    walk_at "aa"
    refine ⟨t4, ys, rfl, .inl (.inl h5), fun p6 n6 => ?_⟩
    have n06 := b05.none hp5 n6
    have s6 := same_new (o := .lst ys.reverse) n6
    exact k p6 _ _ n06 ((List.reverse_perm ys).trans pe) upd_same (fun b o e h => s6 _ _ (b05 _ _ e h)) (hp5.same s6)
  · walk_at "aa"
    exact k t4 H5 ys n04 pe h5 b05 hp5
end QB
set_option Elab.async false
set_option linter.all false
set_option maxRecDepth 100000
set_option maxHeartbeats 4000000

namespace QB
open PySem PySem.Spec L2
open PyProof.Rows (envOfC)
open PySem.PyData (strOk)
open RZ (Ty4 rIsTy call_isTy pi_zipA iZipA ItzT for_zipT for_zipL)
open StX (tStar pa_star)
open QS (SrtR tSrt rSrtI rSrtS rSrtT)
open QT (AllQ Ole Olt)
local macro_rules | `(tactic| walk_at "hp") => `(tactic| first | assumption | exact upd_same | (refine sg (by assumption) ?_; walk_at "hp"))
local macro_rules | `(tactic| walk_at "a") => `(tactic| first
  | with_reducible refine a_seq ?_ | with_reducible refine a_asg ?_ | with_reducible refine a_drop ?_ | with_reducible refine a_ret ?_ | with_reducible refine a_retN ?_
  | with_reducible refine a_ifS ?_ | with_reducible refine a_next ?_ | with_reducible refine a_gname ?_ | with_reducible refine a_nx ?_ | with_reducible refine a_rt ?_ | with_reducible refine a_bk ?_ | with_reducible refine a_ct ?_
  | ((with_reducible show tVar _ _ _ _); refine a_var rfl ?_) | with_reducible refine a_c ?_ | with_reducible refine a_op ?_ | with_reducible refine a_un ?_ | with_reducible refine a_cb ?_ | with_reducible refine a_nil ?_ | with_reducible refine a_cons ?_
  | with_reducible refine a_call ?_ | with_reducible refine a_meth ?_ | with_reducible refine a_make ?_ | with_reducible refine a_test ?_ | with_reducible refine a_tTest ?_ | with_reducible refine a_tand ?_ | with_reducible refine a_tor ?_ | with_reducible refine a_tnot ?_
  | with_reducible refine a_and ?_ | with_reducible refine a_or ?_ | with_reducible refine a_not ?_ | with_reducible refine a_if ?_ | with_reducible refine a_ri0 ?_ | with_reducible refine a_tup ?_ | with_reducible refine a_lst ?_
  | with_reducible refine a_bl ?_ | with_reducible refine a_sfld ?_ | with_reducible refine a_exI ?_ | with_reducible refine a_exZ ?_ | with_reducible refine a_chain ?_ | with_reducible refine a_lc ?_ | with_reducible refine a_yes ?_ | with_reducible refine a_gcons ?_ | with_reducible refine a_gnil ?_ | with_reducible refine w_list ?_ | with_reducible refine w_tup ?_ | with_reducible refine w_str ?_ | with_reducible refine w_rng1 ?_ | with_reducible refine w_zip ?_ | with_reducible refine w_zipA ?_
  | with_reducible refine a_tFld ?_ | with_reducible refine a_dget ?_ | with_reducible refine a_din ?_ | with_reducible refine a_dnin ?_ | with_reducible refine a_sl ?_ | with_reducible refine a_slNone ?_ | with_reducible refine a_slSome ?_
  | with_reducible refine a_isN ?_ | with_reducible refine a_notN ?_ | with_reducible refine a_eqI ?_ | with_reducible refine a_neI ?_ | with_reducible refine a_eqZ ?_ | with_reducible refine a_neZ ?_ | with_reducible refine a_ltZ ?_ | with_reducible refine a_int ?_ | with_reducible refine a_intB ?_ | with_reducible refine a_abs ?_ | with_reducible refine a_max2 ?_ | with_reducible refine a_min2 ?_ | with_reducible refine a_bm ?_
  | ((with_reducible show rLenQ _ _ _ _); first | refine a_lenT (by walk_at "hp") ?_ | refine a_lenL (by walk_at "hp") ?_)
  | with_reducible refine a_prsC ?_ | with_reducible refine a_prsN ?_ | with_reducible refine a_for ?_ | with_reducible refine a_dput ?_ | with_reducible refine w_keys ?_ | with_reducible refine w_listT ?_
  | with_reducible refine QB.a_rU ?_ | with_reducible refine QB.a_cKw ?_ | with_reducible refine QB.a_star ?_ | with_reducible refine QB.a_dget2 ?_
  | with_reducible refine QB.a_par ?_ | with_reducible refine QB.a_par3 ?_
  | with_reducible refine QB.a_srt ?_
  | with_reducible refine QB.a_dc ?_
  | with_reducible refine iteT ?_ | with_reducible refine iteNT ?_ | with_reducible refine iteNF ?_ | with_reducible refine iteF ?_ | with_reducible refine a_prop ?_)
local macro_rules | `(tactic| walk_at "aa") => `(tactic| (walk_at "a"; repeat walk_at "a"))

variable {P : Program} {w : World} {K : PySem.W.Frag} {mg : Str → Option Value} {base : Heap} {CN CC : Addr}
theorem but_same {p : Addr} {H H' : Hp} : But p H H' ↔ Same (drop p H) H' := by
  refine ⟨fun b c o e => ?_, fun s b o ne e => s _ _ (by rw [drop_ne ne]; exact e)⟩
  by_cases q : c = p
  · rw [q, drop_same] at e; cases e
  · rw [drop_ne q] at e; exact b _ _ q e
theorem drop_none {p c : Addr} {H : Hp} (h : H c = none) : drop p H c = none := by
  by_cases q : c = p
  · rw [q, drop_same]
  · rw [drop_ne q]; exact h
/-- a text of small letters -/
def Small (z : Str) : Prop := ∀ c ∈ z.cps.toList, 97 ≤ c ∧ c ≤ 122
theorem join_small : ∀ (ys : List Str), (∀ y ∈ ys, Small y) → Small (Txt.join ⟨#[]⟩ ys) ∧ (Txt.join ⟨#[]⟩ ys).length = (ys.map (·.length)).sum := by
  intro ys
  rw [TL.join_eq]
  induction ys with
  | nil => exact fun _ => ⟨fun c h => (by simp [Str.join, Str.empty] at h), rfl⟩
  | cons y r ih => 
    intro h
    obtain ⟨i1, i2⟩ := ih fun z hz => h z (List.mem_cons_of_mem _ hz)
    have hy := h y List.mem_cons_self
    cases r with
    | nil => exact ⟨hy, by simp [Str.join]⟩
    | cons z r =>
      have e : (Str.join ⟨#[]⟩ (y :: z :: r)).cps = y.cps ++ #[] ++ (Str.join ⟨#[]⟩ (z :: r)).cps := rfl
      refine ⟨fun c hc => ?_, ?_⟩
      · rw [e] at hc
        simp at hc
        rcases hc with hc | hc
        · exact hy c (by simpa using hc)
        · exact i1 c (by simpa using hc)
      · have i2 : (Str.join ⟨#[]⟩ (z :: r)).cps.size = _ := i2
        show (Str.join ⟨#[]⟩ (y :: z :: r)).cps.size = _
        rw [e]
        simp [i2]
        rfl
def spFar : Sp := fun vs H Q _ => ∃ (p : Addr) (c : Nat), vs = [.ref p] ∧ PotAt H p c ∧ c ≤ 900000 ∧ ∀ (r : Int) (H' : Hp), 1 ≤ r → But p H H' → PotAt H' p (c + 3) → Q (.int r) H'
abbrev N__law_far : List Str := ["_law_pot_here"]
theorem sc__law_far : FnScope N__law_far ["_law_pot_here"] (defScope QH.s__law_far) := ⟨rfl, rfl, rfl, by decide +kernel, rfl, by decide +kernel, by decide +kernel⟩
theorem D_law_far (T : Tx P w K mg base CN CC) (F : FunAt K mg "_law_far" QH.s__law_far) (D_law_take : DefOk P w K mg base "_law_take" ["_law_pot_here", "_law_upto"] spTake 1) (D_law_of : DefOk P w K mg base "_law_of" ["_law_pot_here", "_law_some"] spOf 2) : DefOk P w K mg base "_law_far" ["_law_pot_here"] spFar 3 := by
  refine mk_def F sc__law_far (fun _ _ _ _ _ _ us hl => match us, hl with | [_], _ => rfl) (fun vs H Q E h => by obtain ⟨p, c, rfl, _⟩ := h; rfl) (fun f cdv A outer s0 H vs Q E hr h => ?_)
  have nd := sc__law_far.nd
  obtain ⟨p, c, rfl, hp, hc, q⟩ := h
  refine ⟨_, (pss_one (ps_ret (pe_callD D_law_of (hr.mono (by decide)) (by rfl) (pa_cons (pv 0) (pa_cons (pe_lst (pa_cons pe_int (pa_cons pe_int (pa_cons pe_int (pa_cons pe_int (pa_cons pe_int (pa_cons pe_int (pa_cons pe_int (pa_cons pe_int (pa_cons pe_int (pa_cons pe_int (pa_cons (pe_op op_add pe_int (pe_callD D_law_take (hr.mono (by decide)) (by rfl) (pa_cons (pv 0) (pa_cons pe_int pa_nil)))) (pa_cons (pe_op op_add pe_int (pe_callD D_law_take (hr.mono (by decide)) (by rfl) (pa_cons (pv 0) (pa_cons pe_int pa_nil)))) pa_nil))))))))))))) pa_nil))))), ?_⟩
  walk_at "aa"
  refine ⟨p, _, c, rfl, hp, by omega, by decide, by decide, fun r1 H1 r10 r11 b1 hp1 => ?_⟩
  walk_at "aa"
  refine ⟨p, _, c + 1, rfl, hp1, by omega, by decide, by decide, fun r2 H2 r20 r21 b2 hp2 => ?_⟩
  walk_at "aa"
  refine ⟨by show 12 ≤ sizeLine; decide, fun t3 n3 => ?_⟩
  have s3 := same_new (o := .lst [.int 1, .int 1, .int 2, .int 2, .int 3, .int 1, .int 4, .int 2, .int 5, .int 3, .int (1 + r1), .int (1 + r2)]) n3
  walk_at "aa"
  refine ⟨p, c + 2, hp2.same s3, by omega, .inl ⟨t3, _, rfl, upd_same, hp2.ne n3, by simp, (by show 12 ≤ 1000; decide), fun v H' hv b3 hp3 => ?_⟩⟩
  have bb : But p H H' := fun b o e h => b3 _ _ e (s3 _ _ (b2 _ _ e (b1 _ _ e h)))
  simp at hv
  rcases hv with rfl | rfl | rfl | rfl | rfl | rfl | rfl | rfl | rfl | rfl <;> exact q _ _ (by omega) bb hp3
theorem abc_small : Small (Str.ofString "abcdefghijklmnopqrstuvwxyz") := by
  have : ∀ c ∈ (Str.ofString "abcdefghijklmnopqrstuvwxyz").cps.toList, 97 ≤ c ∧ c ≤ 122 := by decide +kernel
  exact this
theorem cutS_small {z : Str} {lo hi : Option Int} (h : Small z) : Small (cutS z lo hi) := fun c hc => h c (List.mem_of_mem_drop (List.mem_of_mem_take (by simpa [cutS] using hc)))
theorem cutS_two {z : Str} {s : Int} : (cutS z Option.none (some s)).length + (cutS z (some s) Option.none).length = z.length := by
  show ((cutS z Option.none (some s)).cps.size) + (cutS z (some s) Option.none).cps.size = z.cps.size
  have h1 := HT.sIx_le z.length 0 (Nat.zero_le _) (some s)
  have h2 : z.length = z.cps.size := rfl
  have e1 : HT.sIx z.length z.length (some s) = HT.sIx z.length 0 (some s) := rfl
  have e2 : HT.sIx z.length 0 Option.none = 0 := rfl
  have e3 : HT.sIx z.length z.length Option.none = z.length := rfl
  unfold cutS
  rw [e1, e2, e3]
  generalize HT.sIx z.length 0 (some s) = k at *
  simp
  omega
/-- name i about the stem z -/
def nm (z : Str) (s at_ : Int) (i : Nat) : Str := cutS z Option.none (some s) ++ (⟨#[97 + ((at_ + 5 * (i : Int)) % 26).toNat]⟩ : Str) ++ cutS z (some s) Option.none
theorem abc_at {k : Int} (h0 : 0 ≤ k) (h1 : k < 26) : atI (Str.ofString "abcdefghijklmnopqrstuvwxyz").cps.toList k = some (97 + k.toNat) := by
  have : ∀ j : Fin 26, atI (Str.ofString "abcdefghijklmnopqrstuvwxyz").cps.toList (j.val : Int) = some (97 + j.val) := by decide +kernel
  have := this ⟨k.toNat, by omega⟩
  rwa [show (((⟨k.toNat, by omega⟩ : Fin 26).val : Nat) : Int) = k by show ((k.toNat : Nat) : Int) = k; omega] at this
theorem nm_cps (z : Str) (s at_ : Int) (i : Nat) : (nm z s at_ i).cps.toList = (cutS z Option.none (some s)).cps.toList ++ (97 + ((at_ + 5 * (i : Int)) % 26).toNat) :: (cutS z (some s) Option.none).cps.toList := by
  show ((cutS z Option.none (some s)).cps ++ #[97 + ((at_ + 5 * (i : Int)) % 26).toNat] ++ (cutS z (some s) Option.none).cps).toList = _
  simp
theorem nm_nodup {z : Str} {s at_ : Int} {m : Nat} (h : Small z) (l : z.length ≤ 7) (m8 : m ≤ 8) : ((List.range m).map (nm z s at_)).Nodup ∧ ∀ x ∈ (List.range m).map (nm z s at_), NameOk x := by
  constructor
  · rw [List.Nodup, List.pairwise_map]
    refine (List.nodup_range (n := m)).imp_of_mem fun {i j} hi hj ne e => ?_
    rw [List.mem_range] at hi hj
    have e := congrArg (fun x : Str => x.cps.toList) e
    simp only [nm_cps] at e
    have e2 := List.append_cancel_left e
    injection e2 with e2 _
    omega
  · intro x hx
    obtain ⟨i, _, rfl⟩ := List.mem_map.mp hx
    have tw := @cutS_two z s
    have le : (nm z s at_ i).length = (cutS z Option.none (some s)).length + 1 + (cutS z (some s) Option.none).length := by
      show ((cutS z Option.none (some s)).cps ++ #[97 + ((at_ + 5 * (i : Int)) % 26).toNat] ++ (cutS z (some s) Option.none).cps).size = (cutS z Option.none (some s)).cps.size + 1 + (cutS z (some s) Option.none).cps.size
      simp
    refine ⟨by omega, by omega, fun c hc => ?_⟩
    rw [nm_cps] at hc
    rcases List.mem_append.mp hc with hc | hc
    · exact cutS_small h c hc
    · rcases List.mem_cons.mp hc with rfl | hc
      · have m0 := Int.emod_nonneg (at_ + 5 * (i : Int)) (show (26 : Int) ≠ 0 by decide)
        have m1 := Int.emod_lt_of_pos (at_ + 5 * (i : Int)) (show (0 : Int) < 26 by decide)
        omega
      · exact cutS_small h c hc
def spNames : Sp := fun vs H Q _ => ∃ (p : Addr) (m c : Nat), vs = [.ref p, .int m] ∧ PotAt H p c ∧ c ≤ 800000 ∧ 2 ≤ m ∧ m ≤ 8 ∧ ∀ (r : Addr) (H' : Hp) (R : List Str), RoutersOk R → R.length = m → H r = none → H' r = some (.lst (R.map V.str)) → But p H H' → PotAt H' p (c + 10) → Q (.ref r) H'
abbrev N__law_names : List Str := ["_law_pot_here", "_law_many", "_law_small", "_law_stem", "_law_found", "_law_spot", "_law_at", "_law_k", "_law_turn"]
theorem sc__law_names : FnScope N__law_names ["_law_pot_here", "_law_many"] (defScope QH.s__law_names) := ⟨rfl, rfl, rfl, by decide +kernel, rfl, by decide +kernel, by decide +kernel⟩
theorem D_law_names (T : Tx P w K mg base CN CC) (F : FunAt K mg "_law_names" QH.s__law_names) (D_law_take : DefOk P w K mg base "_law_take" ["_law_pot_here", "_law_upto"] spTake 1) (D_law_of : DefOk P w K mg base "_law_of" ["_law_pot_here", "_law_some"] spOf 2) : DefOk P w K mg base "_law_names" ["_law_pot_here", "_law_many"] spNames 3 := by
  refine mk_def F sc__law_names (fun _ _ _ _ _ _ us hl => match us, hl with | [_, _], _ => rfl) (fun vs H Q E h => by obtain ⟨p, m, c, rfl, _⟩ := h; rfl) (fun f cdv A outer s0 H vs Q E hr h => ?_)
  have nd := sc__law_names.nd
  obtain ⟨p, m, c, rfl, hp, hc, m2, m8, q⟩ := h
  refine ⟨_, (pss_cons (ps_set (i := 2) nd rfl (by first | exact Or.inl rfl | exact Or.inr rfl) pe_str)
    (pss_cons (ps_set (i := 3) nd rfl (by first | exact Or.inl rfl | exact Or.inr rfl) (pe_join pe_str (pe_lc (own := [("_law_turn", 8)]) (g := (gName 8)) (tt := tYes) rfl nd (pi_range1 (by rfl) T.f_range (pa_cons (pe_callD D_law_of (hr.mono (by decide)) (by rfl) (pa_cons (pv 0) (pa_cons (pe_lst (pa_cons pe_int (pa_cons pe_int (pa_cons pe_int (pa_cons pe_int (pa_cons pe_int (pa_cons pe_int (pa_cons pe_int (pa_cons pe_int (pa_cons pe_int pa_nil)))))))))) pa_nil))) pa_nil)) (blkOk_by (by with_unfolding_all rfl)) (fun _ _ _ _ _ => (pg_name (i := 8) nd rfl (by first | exact Or.inl rfl | exact Or.inr rfl))) (fun _ _ _ _ _ => pts_nil) (fun _ _ _ _ _ => (pe_callD D_law_of (hr.mono (by decide)) (by rfl) (pa_cons (pv 0) (pa_cons (pv 2) pa_nil)))))))
    (pss_cons (ps_asg (pe_tup (pa_cons (pe_callD D_law_take (hr.mono (by decide)) (by rfl) (pa_cons (pv 0) (pa_cons (pe_op op_add (pe_callB c_lenZ (by rfl) T.f_len (by decide +kernel) (pa_cons (pv 3) pa_nil)) pe_int) pa_nil))) (pa_cons (pe_callD D_law_take (hr.mono (by decide)) (by rfl) (pa_cons (pv 0) (pa_cons pe_int pa_nil))) pa_nil))) (ki_gtup (K := K) rfl (pgs_cons (pg_name (i := 5) nd rfl (by first | exact Or.inl rfl | exact Or.inr rfl)) (pgs_cons (pg_name (i := 6) nd rfl (by first | exact Or.inl rfl | exact Or.inr rfl)) pgs_nil))))
    (pss_cons (ps_setLc (i := 4) (own := [("_law_k", 7)]) (g := (gName 7)) (tt := tYes) rfl nd rfl rfl (sw_true rfl rfl rfl (by decide +kernel)) (pi_range1 (by rfl) T.f_range (pa_cons (pv 1) pa_nil)) (blkOk_by (by with_unfolding_all rfl)) (fun _ _ _ _ _ => (pg_name (i := 7) nd rfl (by first | exact Or.inl rfl | exact Or.inr rfl))) (fun _ _ _ _ _ => pts_nil) (fun _ _ _ _ _ => (pe_op o_addZ (pe_op o_addZ (pe_slice sl_str (pv 3) po_none (po_some (pv 5))) (pe_ix ix_str (pv 2) (pe_op op_mod (pe_callTy c_int (by rfl) T.f_int (by decide +kernel) (pa_cons (pe_op op_add (pv 6) (pe_op op_mul pe_int (pv 7))) pa_nil)) pe_int) (fun _ _ => rfl))) (pe_slice sl_str (pv 3) (po_some (pv 5)) po_none))))
    (pss_one (ps_ret (QS.pe_srt (ki_srtS (K := K) rfl (hu65 hr)) (by rfl) T.f_sorted (by rfl) T.f_set (pv 4)))))))), ?_⟩
  walk_at "aa"
  refine ⟨⟨_, rfl⟩, ?_⟩
  walk_at "aa"
  refine ⟨by show 9 ≤ sizeLine; decide, fun t1 n1 => ?_⟩
  have s1 := same_new (o := .lst [.int 0, .int 0, .int 1, .int 2, .int 3, .int 4, .int 5, .int 6, .int 7]) n1
  refine ⟨p, c, hp.same s1, by omega, .inl ⟨t1, _, rfl, upd_same, hp.ne n1, by simp, (by show 9 ≤ 1000; decide), fun v H1 hv b1 hp1 => ?_⟩⟩
  have n : ∃ n : Nat, v = .int n ∧ n ≤ 7 := by
    simp at hv
    rcases hv with rfl | rfl | rfl | rfl | rfl | rfl | rfl | rfl
    · exact ⟨0, rfl, by decide⟩
    · exact ⟨1, rfl, by decide⟩
    · exact ⟨2, rfl, by decide⟩
    · exact ⟨3, rfl, by decide⟩
    · exact ⟨4, rfl, by decide⟩
    · exact ⟨5, rfl, by decide⟩
    · exact ⟨6, rfl, by decide⟩
    · exact ⟨7, rfl, by decide⟩
  obtain ⟨n, rfl, n7⟩ := n
  have b01 : But p H H1 := fun b o e h => b1 _ _ e (s1 _ _ h)
  walk_at "aa"
  refine ⟨n, rfl, by omega, by omega, fun D nD => ?_⟩
  have pD : p ≠ D := by
    rintro rfl
    obtain ⟨xs, e⟩ := hp1.some
    rw [nD] at e; cases e
  refine lcB_go (F := drop p H1) (n := n) (it_range 0 n) drop_le nD (fun i acc H' => ∃ ys : List Str, acc = ys.map V.str ∧ (∀ y ∈ ys, Small y ∧ y.length = 1) ∧ PotAt H' p (c + 1 + i)) ⟨[], rfl, (fun _ h => nomatch h), hp1⟩ ?_ ?_ ?_
  · rintro i acc Ha Hb b ⟨ys, e, hy, hpi⟩
    exact ⟨ys, e, hy, hpi.but b pD⟩
  · rintro i acc H2 x hi sF hD lc ⟨ys, rfl, hy, hpi⟩ rfl
    walk_at "aa"
    refine ⟨rfl, ?_⟩
    walk_at "aa"
    refine ⟨p, c + 1 + i, hpi, by omega, .inr (.inr ⟨_, rfl, by decide, by decide, fun ch H3 hc3 b3 hp3 => ?_⟩)⟩
    have sF3 : Same (drop p H1) H3 := but_same.mp fun b o e h => b3 _ _ e (but_same.mpr sF _ _ e h)
    refine lcB_put (by omega) (drop_none nD) ?_ sF3 (b3 _ _ (Ne.symm pD) hD) lc ⟨ys ++ [⟨#[ch]⟩], by simp, fun y h => ?_, hp3⟩
    · rintro i acc Ha Hb b ⟨ys, e, hy, hpi⟩
      exact ⟨ys, e, hy, hpi.but b pD⟩
    · rcases List.mem_append.mp h with h | h
      · exact hy _ h
      · rw [List.mem_singleton.mp h]
        refine ⟨fun d hd => ?_, rfl⟩
        simp at hd
        subst hd
        exact abc_small _ hc3
  · rintro acc H2 sF hD lc ⟨ys, rfl, hy, hp2⟩
    have b02 : But p H H2 := fun b o e h => but_same.mpr sF _ _ e (b01 _ _ e h)
    obtain ⟨j1, j2⟩ := join_small ys fun y h => (hy y h).1
    have j3 : (ys.map (·.length)).sum ≤ 7 := by
      have e : ys.map (·.length) = List.replicate ys.length 1 := by
        rw [List.eq_replicate_iff]
        refine ⟨by simp, fun b hb => ?_⟩
        obtain ⟨y, h, rfl⟩ := List.mem_map.mp hb
        exact (hy y h).2
      rw [e]; simp at lc ⊢; omega
    refine ⟨_, D, ys, rfl, rfl, .inl (.inl (.inl hD)), ?_, ?_⟩
    · show (ys.map (·.length)).sum + ys.length * 0 ≤ _
      omega
    rw [← j2] at j3
    have e0 : Str.ofString "" = ⟨#[]⟩ := by decide +kernel
    rw [e0]
    generalize Txt.join ⟨#[]⟩ ys = z at *
    walk_at "aa"
    have zl : z.length ≤ sizeLine := Nat.le_trans j3 (by decide)
    refine ⟨z, rfl, zl, ?_⟩
    walk_at "aa"
    refine ⟨p, _, _, rfl, hp2, by omega, by omega, by omega, fun s H3 s0 s1 b3 hp3 => ?_⟩
    walk_at "aa"
    refine ⟨p, _, _, rfl, hp3, by omega, by decide, by decide, fun at_ H4 a0 a1 b4 hp4 => ?_⟩
    walk_at "aa"
    refine ⟨by show 2 ≤ sizeLine; decide, fun t5 n5 => ?_⟩
    have s5 := same_new (o := .tup [.int s, .int at_]) n5
    have hp5 := hp4.same s5
    have b05 : But p H (upd H4 t5 (.tup [.int s, .int at_])) := fun b o e h => s5 _ _ (b4 _ _ e (b3 _ _ e (b02 _ _ e h)))
    refine a_gtup upd_same rfl ?_
    generalize upd H4 t5 (.tup [.int s, .int at_]) = H5 at *
    walk_at "aa"
    refine ⟨m, rfl, by omega, by omega, fun D6 nD6 => ?_⟩
    refine lcB_go (F := H5) (n := m) (it_range 0 m) (Same.refl H5) nD6 (fun i acc _ => acc = ((List.range i).map (nm z s at_)).map V.str) rfl (fun _ _ _ _ _ h => h) ?_ ?_
    · rintro i acc H2 x hi sF hD lc rfl rfl
      walk_at "aa"
      refine ⟨rfl, ?_⟩
      walk_at "aa"
      have tw := @cutS_two z s
      have la : (cutS z Option.none (some s)).length ≤ 7 := by omega
      have lb : (cutS z (some s) Option.none).length ≤ 7 := by omega
      refine ⟨z, rfl, zl, ?_⟩
      walk_at "aa"
      refine a_riC (.inl ⟨by decide, by decide⟩) ?_
      walk_at "aa"
      refine a_riC (by decide) ?_
      have m0 := Int.emod_nonneg (at_ + 5 * (0 + (i : Int))) (show (26 : Int) ≠ 0 by decide)
      have m1 := Int.emod_lt_of_pos (at_ + 5 * (0 + (i : Int))) (show (0 : Int) < 26 by decide)
      refine ⟨_, _, _, rfl, rfl, by decide, abc_at m0 m1, ?_⟩
      refine ⟨_, _, rfl, rfl, Nat.le_trans (Nat.add_le_add la (Nat.le_refl 1)) (by decide), ?_⟩
      walk_at "aa"
      refine ⟨z, rfl, zl, ?_⟩
      refine ⟨_, _, rfl, rfl, ?_, ?_⟩
      · show ((cutS z Option.none (some s)).cps ++ #[97 + ((at_ + 5 * (0 + (i : Int))) % 26).toNat]).size + _ ≤ _
        have la : (cutS z Option.none (some s)).cps.size ≤ 7 := la
        simp
        exact Nat.le_trans (Nat.add_le_add (Nat.add_le_add la (Nat.le_refl 1)) lb) (by decide)
      refine lcB_put (by omega) nD6 (fun _ _ _ _ _ h => h) sF hD lc ?_
      rw [List.range_succ, List.map_append, List.map_append]
      simp [nm]
    · rintro acc H2 sF hD lc rfl
      walk_at "aa"
      obtain ⟨n1, n2⟩ := nm_nodup j1 j3 m8 (s := s) (at_ := at_)
      refine a_srtS hD n1 (by simp; omega) fun R r H' pm pw nr sr hr => ?_
      have sn := n2
      refine q r H' R ⟨by rw [pm.length_eq]; simpa using m2, by rw [pm.length_eq]; simpa using m8, fun x hx => n2 x (pm.mem_iff.mp hx), pair_asc pw⟩ (by rw [pm.length_eq]; simp) ?_ hr (fun b o e h => sr _ _ (sF _ _ (b05 _ _ e h))) (((hp5.same sF).same sr).more (by omega))
      exact b05.none hp5 (by
        cases g : H5 r with
        | none => rfl
        | some o => rw [sF _ _ g] at nr; cases nr)
end QB
set_option Elab.async false
set_option linter.all false
set_option maxRecDepth 100000
set_option maxHeartbeats 4000000

set_option pp.deepTerms false
set_option pp.deepTerms.threshold 10
namespace QB
open PySem PySem.Spec L2
open PyProof.Rows (envOfC)
open PySem.PyData (strOk)
open RZ (Ty4 rIsTy call_isTy pi_zipA iZipA ItzT for_zipT for_zipL)
open StX (tStar pa_star)
open QS (SrtR tSrt rSrtI rSrtS rSrtT)
open QT (AllQ Ole Olt)
local macro_rules | `(tactic| walk_at "hp") => `(tactic| first | assumption | exact upd_same | (refine sg (by assumption) ?_; walk_at "hp"))
local macro_rules | `(tactic| walk_at "a") => `(tactic| first
  | with_reducible refine a_seq ?_ | with_reducible refine a_asg ?_ | with_reducible refine a_drop ?_ | with_reducible refine a_ret ?_ | with_reducible refine a_retN ?_
  | with_reducible refine a_ifS ?_ | with_reducible refine a_next ?_ | with_reducible refine a_gname ?_ | with_reducible refine a_nx ?_ | with_reducible refine a_rt ?_ | with_reducible refine a_bk ?_ | with_reducible refine a_ct ?_
  | ((with_reducible show tVar _ _ _ _); refine a_var rfl ?_) | with_reducible refine a_c ?_ | with_reducible refine a_op ?_ | with_reducible refine a_un ?_ | with_reducible refine a_cb ?_ | with_reducible refine a_nil ?_ | with_reducible refine a_cons ?_
  | with_reducible refine a_call ?_ | with_reducible refine a_meth ?_ | with_reducible refine a_make ?_ | with_reducible refine a_test ?_ | with_reducible refine a_tTest ?_ | with_reducible refine a_tand ?_ | with_reducible refine a_tor ?_ | with_reducible refine a_tnot ?_
  | with_reducible refine a_and ?_ | with_reducible refine a_or ?_ | with_reducible refine a_not ?_ | with_reducible refine a_if ?_ | with_reducible refine a_ri0 ?_ | with_reducible refine a_tup ?_ | with_reducible refine a_lst ?_
  | with_reducible refine a_bl ?_ | with_reducible refine a_sfld ?_ | with_reducible refine a_exI ?_ | with_reducible refine a_exZ ?_ | with_reducible refine a_chain ?_ | with_reducible refine a_lc ?_ | with_reducible refine a_yes ?_ | with_reducible refine a_gcons ?_ | with_reducible refine a_gnil ?_ | with_reducible refine w_list ?_ | with_reducible refine w_tup ?_ | with_reducible refine w_str ?_ | with_reducible refine w_rng1 ?_ | with_reducible refine w_zip ?_ | with_reducible refine w_zipA ?_
  | with_reducible refine a_tFld ?_ | with_reducible refine a_dget ?_ | with_reducible refine a_din ?_ | with_reducible refine a_dnin ?_ | with_reducible refine a_sl ?_ | with_reducible refine a_slNone ?_ | with_reducible refine a_slSome ?_
  | with_reducible refine a_isN ?_ | with_reducible refine a_notN ?_ | with_reducible refine a_eqI ?_ | with_reducible refine a_neI ?_ | with_reducible refine a_eqZ ?_ | with_reducible refine a_neZ ?_ | with_reducible refine a_ltZ ?_ | with_reducible refine a_int ?_ | with_reducible refine a_intB ?_ | with_reducible refine a_abs ?_ | with_reducible refine a_max2 ?_ | with_reducible refine a_min2 ?_ | with_reducible refine a_bm ?_
  | ((with_reducible show rLenQ _ _ _ _); first | refine a_lenT (by walk_at "hp") ?_ | refine a_lenL (by walk_at "hp") ?_)
  | with_reducible refine a_prsC ?_ | with_reducible refine a_prsN ?_ | with_reducible refine a_for ?_ | with_reducible refine a_dput ?_ | with_reducible refine w_keys ?_ | with_reducible refine w_listT ?_
  | with_reducible refine QB.a_rU ?_ | with_reducible refine QB.a_cKw ?_ | with_reducible refine QB.a_star ?_ | with_reducible refine QB.a_dget2 ?_
  | with_reducible refine QB.a_par ?_ | with_reducible refine QB.a_par3 ?_
  | with_reducible refine QB.a_srt ?_
  | with_reducible refine QB.a_dc ?_
  | with_reducible refine iteT ?_ | with_reducible refine iteNT ?_ | with_reducible refine iteNF ?_ | with_reducible refine iteF ?_ | with_reducible refine a_prop ?_)
local macro_rules | `(tactic| walk_at "aa") => `(tactic| (walk_at "a"; repeat walk_at "a"))

variable {P : Program} {w : World} {K : PySem.W.Frag} {mg : Str → Option Value} {base : Heap} {CN CC : Addr}
/-- pairs of routers, each once -/
structure PairsOk (R : List Str) (ps : List (Str × Str)) : Prop where
  nd : ps.Nodup
  each : ∀ p ∈ ps, p.1 ∈ R ∧ p.2 ∈ R ∧ ltS p.1 p.2 = true
theorem rnodup {R : List Str} (rok : RoutersOk R) : R.Nodup := by
  have h : R.Pairwise (fun a b => ltS a b = true) := asc_pair (lt := ltS) (fun a b c h g => ltS_trans h g) rok.asc
  exact h.imp fun g => ltS_ne g
theorem at_strs {O : List Str} {k : Int} {n : Nat} (h0 : 0 ≤ k) (h1 : k < n) (h2 : n ≤ O.length) : ∃ z, atI (O.map V.str) k = some (.str z) ∧ z ∈ O.take n := by
  have hk : k.toNat < O.length := by omega
  refine ⟨O[k.toNat], ?_, ?_⟩
  · unfold atI ixN
    rw [if_pos h0, if_pos (by rw [List.length_map]; omega)]
    simp [hk]
  · rw [List.mem_take_iff_getElem]
    exact ⟨k.toNat, by omega, rfl⟩
theorem at_next {O : List Str} {n : Nat} (nd : O.Nodup) (h : n < O.length) : ∃ z, atI (O.map V.str) (1 + ((n - 1 : Nat) : Int)) = some (.str z) ∧ z ∈ O.take (n + 1) ∧ z ∉ O.take n ∨ n = 0 := by
  by_cases n0 : n = 0
  · exact ⟨⟨#[]⟩, .inr n0⟩
  refine ⟨O[n], .inl ⟨?_, ?_, fun hm => ?_⟩⟩
  · unfold atI ixN
    rw [if_pos (by omega), if_pos (by rw [List.length_map]; omega)]
    have e : (1 + ((n - 1 : Nat) : Int)).toNat = n := by omega
    simp [e, h]
  · rw [List.mem_take_iff_getElem]
    exact ⟨n, by omega, rfl⟩
  · rw [List.mem_take_iff_getElem] at hm
    obtain ⟨j, hj, e⟩ := hm
    have := (List.getElem_inj nd).mp e
    omega
theorem take_up {O : List Str} {n : Nat} {z : Str} (h : z ∈ O.take n) : z ∈ O.take (n + 1) := by
  rw [List.mem_take_iff_getElem] at h ⊢
  obtain ⟨j, hj, e⟩ := h
  exact ⟨j, by omega, e⟩
theorem ts_but {p : Addr} {H H' : Hp} {c : Nat} (b : But p H H') (h : PotAt H p c) : Tsm H H' := fun t xs e => b.tup h e
theorem paired_app {α β : Type} {F : α → β → Prop} : ∀ {xs us : List α} {ys vs : List β}, Paired F xs ys → Paired F us vs → Paired F (xs ++ us) (ys ++ vs)
  | _, _, _, _, .nil, h => h
  | _, _, _, _, .cons a t, h => .cons a (paired_app t h)
theorem a_enumT {X : PySem.W.Frag} {σ : L2.St} {H : Hp} {R : It → Hp → Prop} {a : Addr} {xs : List V} {k : Nat} (h : H a = some (.tup xs)) (q : R (IteT X a) H) (e : σ[k]? = some (some (.ref a)) := by rfl) : iEnumT X (tCons (tVar k) tNil) σ H R := a_cons (a_var e (a_nil ⟨a, xs, rfl, SqT.of h, q⟩))
theorem ts_drop {D : Addr} {H H' : Hp} (b : But D H H') : Tsm (drop D H) (drop D H') := fun t xs e => by
  have ne : t ≠ D := by rintro rfl; rw [drop_same] at e; cases e
  rw [drop_ne ne] at e ⊢
  exact b _ _ ne e
theorem nth_take {α : Type} {O : List α} {n : Nat} {z : α} (h : O[n]? = some z) : z ∈ O.take (n + 1) := by
  obtain ⟨hn, rfl⟩ := List.getElem?_eq_some_iff.mp h
  rw [List.mem_take_iff_getElem]
  exact ⟨n, by omega, rfl⟩
theorem nth_new {α : Type} {O : List α} {n : Nat} {z : α} (nd : O.Nodup) (h : O[n]? = some z) (m : z ∈ O.take n) : False := by
  obtain ⟨hn, rfl⟩ := List.getElem?_eq_some_iff.mp h
  rw [List.mem_take_iff_getElem] at m
  obtain ⟨j, hj, e⟩ := m
  have := (List.getElem_inj nd).mp e
  omega
theorem asc_after {R : List Str} {n : Nat} {a b : Str} (rok : RoutersOk R) (h : R[n]? = some a) (m : b ∈ R.drop (n + 1)) : ltS a b = true := by
  have pw : R.Pairwise (fun a b => ltS a b = true) := asc_pair (lt := ltS) (fun a b c h g => ltS_trans h g) rok.asc
  obtain ⟨hn, rfl⟩ := List.getElem?_eq_some_iff.mp h
  obtain ⟨j, hj, rfl⟩ := List.mem_iff_getElem.mp m
  rw [List.getElem_drop]
  exact List.pairwise_iff_getElem.mp pw _ _ _ _ (by omega)
theorem paired_perm {α β : Type} {F : α → β → Prop} {ys xs : List α} (h : ys.Perm xs) : ∀ l : List β, Paired F xs l → ∃ l' : List β, Paired F ys l' ∧ l'.Perm l := by
  induction h with
  | nil => exact fun l e => ⟨l, e, .refl _⟩
  | cons x _ ih =>
    intro l e
    cases e with
    | cons a t =>
      obtain ⟨l', e', p⟩ := ih _ t
      exact ⟨_ :: l', .cons a e', p.cons _⟩
  | swap x y l0 =>
    intro l e
    cases e with
    | cons a t =>
      cases t with
      | cons b t => exact ⟨_, .cons b (.cons a t), .swap _ _ _⟩
  | trans _ _ ih1 ih2 =>
    intro l e
    obtain ⟨l2, e2, p2⟩ := ih2 l e
    obtain ⟨l3, e3, p3⟩ := ih1 l2 e2
    exact ⟨l3, e3, p3.trans p2⟩
theorem paired_take {α β : Type} {F : α → β → Prop} : ∀ (n : Nat) {xs : List α} {ys : List β}, Paired F xs ys → Paired F (xs.take n) (ys.take n)
  | 0, _, _, _ => .nil
  | _ + 1, _, _, .nil => .nil
  | n + 1, _, _, .cons a t => .cons a (paired_take n t)
theorem a_neNilP {K : PySem.W.Frag} {H : Hp} {Q : VK} {a b : Addr} {vs : List V} {ps : List (Str × Str)} (h : H a = some (.lst vs)) (hp : PairsAt H vs ps) (hb : H b = some (.lst [])) (o2 : ∀ p ∈ ps, strOk p.1 = true ∧ strOk p.2 = true) (q : Q (.bl (!decide (ps = []))) H) : rNeD K (.ref a) (.ref b) H Q :=
  a_neD (.lst (SqL.of h) (dp_pairs hp)) (.lst (SqL.of hb) .nil) (shaped_pairs o2) rfl (by
    have e : PyData.eqv (.list (ps.map pD)) (.list []) = decide (ps = []) := by cases ps <;> rfl
    rw [e]; exact q)
theorem a_rng2 {ta : TA} {σ : L2.St} {H : Hp} {R : It → Hp → Prop} (h : ta σ H fun vs H1 => ∃ i j : Int, vs = [.int i, .int j] ∧ (-(2 ^ 62) ≤ i ∧ i < 2 ^ 62 ∧ -(2 ^ 62) ≤ j ∧ j < 2 ^ 62) ∧ R (Itr i (j - i).toNat) H1) : iRng2 ta σ H R := h
theorem perm_map {α β : Type} {f : α → β} {ys xs : List β} (h : ys.Perm xs) : ∀ l : List α, xs = l.map f → ∃ l' : List α, ys = l'.map f ∧ l'.Perm l := by
  induction h with
  | nil => exact fun l e => ⟨l, e, .refl _⟩
  | cons x _ ih =>
    intro l e
    cases l with
    | nil => cases e
    | cons a l =>
      injection e with e1 e2
      obtain ⟨l', rfl, p⟩ := ih _ e2
      exact ⟨a :: l', by simp [e1], p.cons _⟩
  | swap x y l0 =>
    intro l e
    cases l with
    | nil => cases e
    | cons a l =>
      cases l with
      | nil => cases e
      | cons b l =>
        injection e with e1 e2
        injection e2 with e2 e3
        exact ⟨b :: a :: l, by simp [e1, e2, e3], .swap _ _ _⟩
  | trans _ _ ih1 ih2 =>
    intro l e
    obtain ⟨l2, e2, p2⟩ := ih2 l e
    obtain ⟨l3, e3, p3⟩ := ih1 l2 e2
    exact ⟨l3, e3, p3.trans p2⟩
def spPairs : Sp := fun vs H Q _ => ∃ (p r : Addr) (m c : Nat) (R : List Str), vs = [.ref p, .ref r, .int m] ∧ PotAt H p c ∧ c ≤ 700000 ∧ H r = some (.tup (R.map V.str)) ∧ RoutersOk R ∧ m ≤ 16 ∧ ∀ (t : Addr) (H' : Hp) (us : List V) (ps : List (Str × Str)), PairsOk R ps → ps.length ≤ 16 → PairsAt H' us ps → H t = none → H' t = some (.lst us) → But p H H' → PotAt H' p (c + 30) → Q (.ref t) H'
abbrev N__law_pairs : List Str := ["_law_pot_here", "_law_routers", "_law_many", "_law_is_joined", "_law_at", "_law_rest", "_law_order", "_law_found", "_law_a", "_law_other", "_law_b"]
theorem sc__law_pairs : FnScope N__law_pairs ["_law_pot_here", "_law_routers", "_law_many"] (defScope QH.s__law_pairs) := ⟨rfl, rfl, rfl, by decide +kernel, rfl, by decide +kernel, by decide +kernel⟩
theorem D_law_pairs (T : Tx P w K mg base CN CC) (F : FunAt K mg "_law_pairs" QH.s__law_pairs) (D_law_take : DefOk P w K mg base "_law_take" ["_law_pot_here", "_law_upto"] spTake 1) (D_law_turned : DefOk P w K mg base "_law_turned" ["_law_pot_here", "_law_some"] spTurned 2) : DefOk P w K mg base "_law_pairs" ["_law_pot_here", "_law_routers", "_law_many"] spPairs 3 := by
  refine mk_def F sc__law_pairs (fun _ _ _ _ _ _ us hl => match us, hl with | [_, _, _], _ => rfl) (fun vs H Q E h => by obtain ⟨p, r, m, c, R, rfl, _⟩ := h; rfl) (fun f cdv A outer s0 H vs Q E hr h => ?_)
  have nd := sc__law_pairs.nd
  obtain ⟨p, r, m, c, R, rfl, hp, hc, hR, rok, m16, k⟩ := h
  refine ⟨_, (pss_cons (ps_asg (pe_tup (pa_cons (pe_callD D_law_turned (hr.mono (by decide)) (by rfl) (pa_cons (pv 0) (pa_cons (pe_callTy (ki_list (K := K)) (by rfl) T.f_list (by decide +kernel) (pa_cons (pv 1) pa_nil)) pa_nil))) (pa_cons (pe_lst pa_nil) pa_nil))) (ki_gtup (K := K) rfl (pgs_cons (pg_name (i := 6) nd rfl (by first | exact Or.inl rfl | exact Or.inr rfl)) (pgs_cons (pg_name (i := 7) nd rfl (by first | exact Or.inl rfl | exact Or.inr rfl)) pgs_nil))))
    (pss_cons (ps_set (i := 3) nd rfl (by first | exact Or.inl rfl | exact Or.inr rfl) (pe_cmpR op_gt (pe_callD D_law_take (hr.mono (by decide)) (by rfl) (pa_cons (pv 0) (pa_cons pe_int pa_nil))) pe_int (nomark _)))
    (pss_cons (ps_for PassesOwn.never rfl (pi_range2 (by rfl) T.f_range (pa_cons pe_int (pa_cons (pe_callB (ki_len (K := K)) (by rfl) T.f_len (by decide +kernel) (pa_cons (pv 6) pa_nil)) pa_nil))) (pg_name (i := 4) nd rfl (by first | exact Or.inl rfl | exact Or.inr rfl)) (pss_one (ps_if (PW.pt (pw_or (pt_val (pv 3)) (pw_or1 (pt_cmpR op_eq (pe_callD D_law_take (hr.mono (by decide)) (by rfl) (pa_cons (pv 0) (pa_cons pe_int pa_nil))) pe_int (nomark _))))) (pss_cons (ps_set (i := 9) nd rfl (by first | exact Or.inl rfl | exact Or.inr rfl) (pe_ix (ki_ixL (K := K)) (pv 6) (pe_op op_sub (pe_op op_sub (pv 4) pe_int) (pe_callD D_law_take (hr.mono (by decide)) (by rfl) (pa_cons (pv 0) (pa_cons (pe_callB (c_min2 rfl) (by rfl) T.f_min (by decide +kernel) (pa_cons (pv 4) (pa_cons pe_int pa_nil))) pa_nil)))) (fun _ _ => rfl)))
    (pss_one (ps_expr (pe_bm PySem.F.plainAttrs_list PySem.F.slot_list_append PySem.F.type_list_append mt_append (pv 7) (pa_cons (pe_ifExp (pt_cmpR o_ltZ (pe_ix (ki_ixL (K := K)) (pv 6) (pv 4) (fun _ _ => rfl)) (pv 9) (nomark _)) (pe_tup (pa_cons (pe_ix (ki_ixL (K := K)) (pv 6) (pv 4) (fun _ _ => rfl)) (pa_cons (pv 9) pa_nil))) (pe_tup (pa_cons (pv 9) (pa_cons (pe_ix (ki_ixL (K := K)) (pv 6) (pv 4) (fun _ _ => rfl)) pa_nil)))) pa_nil))))) pss_nil)))
    (pss_cons (ps_set (i := 5) nd rfl (by first | exact Or.inl rfl | exact Or.inr rfl) (pe_lst pa_nil))
    (pss_cons (ps_for PassesOwn.never rfl (pi_enumT (by rfl) T.f_enumerate (pa_cons (pv 1) pa_nil)) (ki_gtup (K := K) rfl (pgs_cons (pg_name (i := 4) nd rfl (by first | exact Or.inl rfl | exact Or.inr rfl)) (pgs_cons (pg_name (i := 8) nd rfl (by first | exact Or.inl rfl | exact Or.inr rfl)) pgs_nil))) (pss_one (ps_expr (pe_bm PySem.F.plainAttrs_list PySem.F.slot_list_extend PySem.F.type_list_extend mt_extend (pv 5) (pa_cons (pe_lc (own := [("_law_b", 10)]) (g := (gName 10)) rfl nd (ki_ptup (K := K) (pe_slice (ki_slA (K := K)) (pv 1) (po_some (pe_op op_add (pv 4) pe_int)) po_none)) (blkOk_by (by with_unfolding_all rfl)) (fun _ _ _ _ _ => (pg_name (i := 10) nd rfl (by first | exact Or.inl rfl | exact Or.inr rfl))) (fun _ _ _ _ _ => (pts_one (pt_cmpR (ki_notinD (K := K) (hu65 hr)) (pe_tup (pa_cons (pv 8) (pa_cons (pv 10) pa_nil))) (pv 7) (by rfl)))) (fun _ _ _ _ _ => (pe_tup (pa_cons (pv 8) (pa_cons (pv 10) pa_nil))))) pa_nil)))))
    (pss_one (ps_ret (pe_ifExp (pt_cmpR (ki_neD (K := K) hr.units) (pv 5) (pe_lst pa_nil) (nomark _)) (pe_op op_cat (pv 7) (pe_slice (ki_slL (K := K)) (pe_callD D_law_turned (hr.mono (by decide)) (by rfl) (pa_cons (pv 0) (pa_cons (pv 5) pa_nil))) po_none (po_some (pe_callB (c_max2 rfl) (by rfl) T.f_max (by decide +kernel) (pa_cons pe_int (pa_cons (pe_op op_sub (pe_callTy c_int (by rfl) T.f_int (by decide +kernel) (pa_cons (pv 2) pa_nil)) (pe_callB (ki_len (K := K)) (by rfl) T.f_len (by decide +kernel) (pa_cons (pv 7) pa_nil))) pa_nil)))))) (pv 7))))))))), ?_⟩
  walk_at "aa"
  refine a_lstT hR fun l1 H1 n1 s1 h1 => ?_
  walk_at "aa"
  have R0 : R ≠ [] := fun e => by have := rok.two; rw [e] at this; simp at this
  refine ⟨p, l1, c, _, rfl, hp.same s1, by omega, h1, hp.ne n1, by simp [R0], by simp; have := rok.most; omega, fun o H2 ys no pm h2 b2 hp2 => ?_⟩
  obtain ⟨O, rfl, pmO⟩ := perm_map pm R rfl
  walk_at "aa"
  refine ⟨Nat.zero_le _, fun f3 n3 => ?_⟩
  have s3 := same_new (o := .lst []) n3
  walk_at "aa"
  refine ⟨by show 2 ≤ sizeLine; decide, fun t4 n4 => ?_⟩
  have s4 := same_new (o := .tup [.ref o, .ref f3]) n4
  refine a_gtup upd_same rfl ?_
  have h4 := s4 _ _ (s3 _ _ h2)
  have f4 := s4 _ _ (show upd H2 f3 (.lst []) f3 = _ from upd_same)
  have hp4 := (hp2.same s3).same s4
  have b04 : But p H (upd (upd H2 f3 (.lst [])) t4 (.tup [.ref o, .ref f3])) := fun b o e h => s4 _ _ (s3 _ _ (b2 _ _ e (s1 _ _ h)))
  have fp : f3 ≠ p := hp2.ne n3
  have f0 : H f3 = none := by
    cases g : H f3 with
    | none => rfl
    | some u => rw [b2 _ _ fp (s1 _ _ g)] at n3; cases n3
  have op : o ≠ p := by
    rintro rfl
    obtain ⟨xs, e⟩ := hp.some
    rw [s1 _ _ e] at no; cases no
  have of : o ≠ f3 := by rintro rfl; rw [h2] at n3; cases n3
  have hR4 := b04.tup hp hR
  generalize upd (upd H2 f3 (.lst [])) t4 (.tup [.ref o, .ref f3]) = H4 at *
  walk_at "aa"
  refine ⟨p, _, _, rfl, hp4, by omega, by decide, by decide, fun j5 H5 _ _ b5 hp5 => ?_⟩
  have h5 := b5 _ _ op h4
  have f5 := b5 _ _ fp f4
  have b05 : But p H H5 := fun b o e h => b5 _ _ e (b04 _ _ e h)
  walk_at "aa"
  refine a_rng2 ?_
  walk_at "aa"
  have lO : O.length = R.length := pmO.length_eq
  have l2 := rok.two
  have l8 := rok.most
  refine ⟨1, _, rfl, ⟨by decide, by decide, by simp <;> omega, by simp <;> omega⟩, ?_⟩
  have ndO : O.Nodup := pmO.symm.nodup (rnodup rok)
  have Fe : Same (drop f3 (drop p H5)) H5 := fun b u e => drop_le _ _ (drop_le _ _ e)
  refine for_go (F := drop f3 (drop p H5)) (it_range 1 _) (fun i σ H' => Same (drop f3 (drop p H5)) H' ∧ PotAt H' p (c + 3 + 2 * i) ∧ (∃ (us : List V) (ps : List (Str × Str)), H' f3 = some (.lst us) ∧ PairsAt H' us ps ∧ ps.Nodup ∧ ps.length ≤ i ∧ ∀ q ∈ ps, q.1 ∈ O.take (i + 1) ∧ q.2 ∈ O.take (i + 1) ∧ ltS q.1 q.2 = true) ∧ ∃ q4 q9, σ = [some (.ref p), some (.ref r), some (.int m), some (.bl (decide (0 < j5))), q4, none, some (.ref o), some (.ref f3), none, q9, none]) ?_ (fun _ _ _ h => h.1) ?_ ?_ ?_
  · exact ⟨Fe, hp5, ⟨[], [], f5, .nil, .nil, by simp, fun q h => nomatch h⟩, _, _, rfl⟩
  · rintro i σ Ha Hb s ⟨g1, g2, ⟨us, ps, e1, e2, e3⟩, g4⟩
    exact ⟨g1.trans s, g2.same s, ⟨us, ps, s _ _ e1, e2.ts (tsS s), e3⟩, g4⟩
  · rintro i x σ H6 hi ⟨g1, g2, ⟨us, ps, e1, e2, e3, e4, e5⟩, q4, q9, rfl⟩ rfl
    walk_at "aa"
    have hi2 : i + 1 < O.length := by simp at hi; omega
    have h6 := g1 _ _ (show drop f3 (drop p H5) o = _ by rw [drop_ne of, drop_ne op]; exact h5)
    refine iteD (fun c1 => ?_) (fun c1 => ?_)
    · rw [if_pos rfl]
      have hp7 : PotAt H6 p (c + 4 + 2 * i) := g2.more (by omega)
      have h7 := h6
      have e7 := e1
      have pr7 := e2
      have g7 := g1
      walk_at "aa"
      refine ⟨p, _, _, rfl, hp7, by omega, by split <;> omega, by split <;> omega, fun t H8 t0 t1 b8 hp8 => ?_⟩
      have t1 : t < 1 + (i : Int) := by revert t1; split <;> intro t1 <;> omega
      have h8 := b8 _ _ op h7
      have f8 := b8 _ _ fp e7
      have pr8 : PairsAt H8 us ps := pr7.ts (ts_but b8 hp7)
      have g8 : Same (drop f3 (drop p H5)) H8 := fun b u e => by
        have := g7 _ _ e
        by_cases q : b = p
        · subst q; exfalso; rw [drop_ne fp.symm, drop_same] at e; cases e
        · exact b8 _ _ q this
      obtain ⟨z, ez, mz⟩ := at_strs (O := O) (k := 1 + (i : Int) - 1 - t) (n := i + 1) (by omega) (by omega) (by omega)
      obtain ⟨y, ⟨ey, my, ny⟩ | n0⟩ := at_next (n := i + 1) ndO hi2
      rotate_left
      · cases n0
      have ey : atI (O.map V.str) (1 + (i : Int)) = some (.str y) := ey
      have mz2 : z ∈ O.take (i + 1 + 1) := take_up mz
      refine a_ri0 ?_
      refine a_ixL h8 ez ?_
      walk_at "aa"
      refine ⟨ty_lst f8, ?_⟩
      walk_at "aa"
      refine a_ixL h8 ey ?_
      walk_at "aa"
      have yz : y ≠ z := fun e => ny (e ▸ mz)
      have fin : ∀ (T : Addr) (H9 : Hp) (q : Str × Str), H8 T = none → H9 = upd H8 T (.tup [.str q.1, .str q.2]) → ((q.1 = y ∧ q.2 = z) ∨ (q.1 = z ∧ q.2 = y)) → ltS q.1 q.2 = true →
          (H9 f3 = some (.lst us) ∧ Same (drop f3 (drop p H5)) (upd H9 f3 (.lst (us ++ [.ref T]))) ∧ PotAt (upd H9 f3 (.lst (us ++ [.ref T]))) p (c + 3 + 2 * (i + 1)) ∧ ∃ (us2 : List V) (ps2 : List (Str × Str)), (upd H9 f3 (.lst (us ++ [.ref T]))) f3 = some (.lst us2) ∧ PairsAt (upd H9 f3 (.lst (us ++ [.ref T]))) us2 ps2 ∧ ps2.Nodup ∧ ps2.length ≤ i + 1 ∧ ∀ q ∈ ps2, q.1 ∈ O.take (i + 1 + 1) ∧ q.2 ∈ O.take (i + 1 + 1) ∧ ltS q.1 q.2 = true) := by
        rintro T H9 q nT rfl hq lq
        have s9 := same_new (o := .tup [.str q.1, .str q.2]) nT
        have f9 := s9 _ _ f8
        have tf : T ≠ f3 := by rintro rfl; rw [f8] at nT; cases nT
        have tsm : Tsm H8 (upd (upd H8 T (.tup [.str q.1, .str q.2])) f3 (.lst (us ++ [.ref T]))) := fun b xs e => by
          rw [upd_ne (by rintro rfl; rw [f8] at e; cases e)]
          exact s9 _ _ e
        refine ⟨f9, fun b u e => ?_, ?_, us ++ [.ref T], ps ++ [q], upd_same, ?_, ?_, by simp; omega, fun q2 h => ?_⟩
        · rw [upd_ne (by rintro rfl; rw [drop_same] at e; cases e)]
          exact s9 _ _ (g8 _ _ e)
        · exact ((hp8.same s9).but But.refl.upd fp.symm).more (by omega)
        · exact paired_app (pr8.ts tsm) (.cons ⟨T, rfl, by rw [upd_ne tf]; exact upd_same⟩ .nil)
        · refine List.nodup_append.mpr ⟨e3, by simp, fun u hu v hv => ?_⟩
          rintro rfl
          rw [List.mem_singleton] at hv
          subst hv
          have := e5 _ hu
          rcases hq with ⟨h, _⟩ | ⟨_, h⟩
          · exact ny (h ▸ this.1)
          · exact ny (h ▸ this.2.1)
        · rcases List.mem_append.mp h with h | h
          · have := e5 _ h
            exact ⟨take_up this.1, take_up this.2.1, this.2.2⟩
          · rw [List.mem_singleton] at h
            subst h
            rcases hq with ⟨h1, h2⟩ | ⟨h1, h2⟩ <;> rw [h1, h2] at lq ⊢
            · exact ⟨my, mz2, lq⟩
            · exact ⟨mz2, my, lq⟩
      refine iteD (fun c2 => ?_) (fun c2 => ?_)
      · walk_at "aa"
        refine a_ixL h8 ey ?_
        walk_at "aa"
        refine ⟨by show 2 ≤ sizeLine; decide, fun T nT => ?_⟩
        obtain ⟨k1, k2, k3, k4⟩ := fin T _ (y, z) nT rfl (.inl ⟨rfl, rfl⟩) (decide_eq_true c2)
        walk_at "aa"
        exact a_app k1 (by have := (Paired.length e2); omega) ⟨k2, k3, k4, _, _, rfl⟩
      · walk_at "aa"
        refine a_ixL h8 ey ?_
        walk_at "aa"
        refine ⟨by show 2 ≤ sizeLine; decide, fun T nT => ?_⟩
        have lz : ltS z y = true := by
          rcases ltS_tri y z with h | h | h
          · exact absurd (of_decide_eq_true h) c2
          · exact absurd h yz
          · exact h
        obtain ⟨k1, k2, k3, k4⟩ := fin T _ (z, y) nT rfl (.inr ⟨rfl, rfl⟩) lz
        walk_at "aa"
        exact a_app k1 (by have := (Paired.length e2); omega) ⟨k2, k3, k4, _, _, rfl⟩
    · walk_at "aa"
      refine ⟨p, _, _, rfl, g2, by omega, by decide, by decide, fun j7 H7 _ _ b7 hp7 => ?_⟩
      have h7 := b7 _ _ op h6
      have e7 := b7 _ _ fp e1
      have pr7 : PairsAt H7 us ps := e2.ts (ts_but b7 g2)
      have g7 : Same (drop f3 (drop p H5)) H7 := fun b u e => by
        have := g1 _ _ e
        by_cases q : b = p
        · subst q; exfalso; rw [drop_ne fp.symm, drop_same] at e; cases e
        · exact b7 _ _ q this
      have hp7 : PotAt H7 p (c + 4 + 2 * i) := hp7.more (by omega)
      walk_at "aa"
      refine iteD (fun c3 => ?_) (fun c3 => ?_)
      · skip
        walk_at "aa"
        refine ⟨p, _, _, rfl, hp7, by omega, by split <;> omega, by split <;> omega, fun t H8 t0 t1 b8 hp8 => ?_⟩
        have t1 : t < 1 + (i : Int) := by revert t1; split <;> intro t1 <;> omega
        have h8 := b8 _ _ op h7
        have f8 := b8 _ _ fp e7
        have pr8 : PairsAt H8 us ps := pr7.ts (ts_but b8 hp7)
        have g8 : Same (drop f3 (drop p H5)) H8 := fun b u e => by
          have := g7 _ _ e
          by_cases q : b = p
          · subst q; exfalso; rw [drop_ne fp.symm, drop_same] at e; cases e
          · exact b8 _ _ q this
        obtain ⟨z, ez, mz⟩ := at_strs (O := O) (k := 1 + (i : Int) - 1 - t) (n := i + 1) (by omega) (by omega) (by omega)
        obtain ⟨y, ⟨ey, my, ny⟩ | n0⟩ := at_next (n := i + 1) ndO hi2
        rotate_left
        · cases n0
        have ey : atI (O.map V.str) (1 + (i : Int)) = some (.str y) := ey
        have mz2 : z ∈ O.take (i + 1 + 1) := take_up mz
        refine a_ri0 ?_
        refine a_ixL h8 ez ?_
        walk_at "aa"
        refine ⟨ty_lst f8, ?_⟩
        walk_at "aa"
        refine a_ixL h8 ey ?_
        walk_at "aa"
        have yz : y ≠ z := fun e => ny (e ▸ mz)
        have fin : ∀ (T : Addr) (H9 : Hp) (q : Str × Str), H8 T = none → H9 = upd H8 T (.tup [.str q.1, .str q.2]) → ((q.1 = y ∧ q.2 = z) ∨ (q.1 = z ∧ q.2 = y)) → ltS q.1 q.2 = true →
            (H9 f3 = some (.lst us) ∧ Same (drop f3 (drop p H5)) (upd H9 f3 (.lst (us ++ [.ref T]))) ∧ PotAt (upd H9 f3 (.lst (us ++ [.ref T]))) p (c + 3 + 2 * (i + 1)) ∧ ∃ (us2 : List V) (ps2 : List (Str × Str)), (upd H9 f3 (.lst (us ++ [.ref T]))) f3 = some (.lst us2) ∧ PairsAt (upd H9 f3 (.lst (us ++ [.ref T]))) us2 ps2 ∧ ps2.Nodup ∧ ps2.length ≤ i + 1 ∧ ∀ q ∈ ps2, q.1 ∈ O.take (i + 1 + 1) ∧ q.2 ∈ O.take (i + 1 + 1) ∧ ltS q.1 q.2 = true) := by
          rintro T H9 q nT rfl hq lq
          have s9 := same_new (o := .tup [.str q.1, .str q.2]) nT
          have f9 := s9 _ _ f8
          have tf : T ≠ f3 := by rintro rfl; rw [f8] at nT; cases nT
          have tsm : Tsm H8 (upd (upd H8 T (.tup [.str q.1, .str q.2])) f3 (.lst (us ++ [.ref T]))) := fun b xs e => by
            rw [upd_ne (by rintro rfl; rw [f8] at e; cases e)]
            exact s9 _ _ e
          refine ⟨f9, fun b u e => ?_, ?_, us ++ [.ref T], ps ++ [q], upd_same, ?_, ?_, by simp; omega, fun q2 h => ?_⟩
          · rw [upd_ne (by rintro rfl; rw [drop_same] at e; cases e)]
            exact s9 _ _ (g8 _ _ e)
          · exact ((hp8.same s9).but But.refl.upd fp.symm).more (by omega)
          · exact paired_app (pr8.ts tsm) (.cons ⟨T, rfl, by rw [upd_ne tf]; exact upd_same⟩ .nil)
          · refine List.nodup_append.mpr ⟨e3, by simp, fun u hu v hv => ?_⟩
            rintro rfl
            rw [List.mem_singleton] at hv
            subst hv
            have := e5 _ hu
            rcases hq with ⟨h, _⟩ | ⟨_, h⟩
            · exact ny (h ▸ this.1)
            · exact ny (h ▸ this.2.1)
          · rcases List.mem_append.mp h with h | h
            · have := e5 _ h
              exact ⟨take_up this.1, take_up this.2.1, this.2.2⟩
            · rw [List.mem_singleton] at h
              subst h
              rcases hq with ⟨h1, h2⟩ | ⟨h1, h2⟩ <;> rw [h1, h2] at lq ⊢
              · exact ⟨my, mz2, lq⟩
              · exact ⟨mz2, my, lq⟩
        refine iteD (fun c2 => ?_) (fun c2 => ?_)
        · walk_at "aa"
          refine a_ixL h8 ey ?_
          walk_at "aa"
          refine ⟨by show 2 ≤ sizeLine; decide, fun T nT => ?_⟩
          obtain ⟨k1, k2, k3, k4⟩ := fin T _ (y, z) nT rfl (.inl ⟨rfl, rfl⟩) (decide_eq_true c2)
          walk_at "aa"
          exact a_app k1 (by have := (Paired.length e2); omega) ⟨k2, k3, k4, _, _, rfl⟩
        · walk_at "aa"
          refine a_ixL h8 ey ?_
          walk_at "aa"
          refine ⟨by show 2 ≤ sizeLine; decide, fun T nT => ?_⟩
          have lz : ltS z y = true := by
            rcases ltS_tri y z with h | h | h
            · exact absurd (of_decide_eq_true h) c2
            · exact absurd h yz
            · exact h
          obtain ⟨k1, k2, k3, k4⟩ := fin T _ (z, y) nT rfl (.inr ⟨rfl, rfl⟩) lz
          walk_at "aa"
          exact a_app k1 (by have := (Paired.length e2); omega) ⟨k2, k3, k4, _, _, rfl⟩
      · walk_at "aa"
        exact ⟨g7, hp7.more (by omega), ⟨us, ps, e7, pr7, e3, by omega, fun q h => ⟨take_up (e5 _ h).1, take_up (e5 _ h).2.1, (e5 _ h).2.2⟩⟩, _, _, rfl⟩
  · rintro σ H6 ⟨g1, g2, ⟨us, ps, e1, e2, e3, e4, e5⟩, q4, q9, rfl⟩
    walk_at "aa"
    refine ⟨Nat.zero_le _, fun r5 n5 => ?_⟩
    have s5 := same_new (o := .lst []) n5
    have r7 : upd H6 r5 (.lst []) r5 = some (.lst []) := upd_same
    have b06 : But p H H6 ∨ True := .inr trivial
    have hR6 : upd H6 r5 (.lst []) r = some (.tup (R.map V.str)) := by
      refine s5 _ _ (g1 _ _ ?_)
      have e := b05.tup hp hR
      rw [drop_ne (by rintro rfl; rw [f5] at e; cases e), drop_ne (by rintro rfl; obtain ⟨_, e'⟩ := hp5.some; rw [e'] at e; cases e)]
      exact e
    have e17 := s5 _ _ e1
    have e27 := e2.ts (tsS s5)
    have hp7 := g2.same s5
    have rp : r5 ≠ p := g2.ne n5
    have rf : r5 ≠ f3 := by rintro rfl; rw [e1] at n5; cases n5
    have oks : ∀ x ∈ ps, strOk x.1 = true ∧ strOk x.2 = true := fun x hx => ⟨(rok.names _ (pmO.mem_iff.mp (List.mem_of_mem_take (e5 x hx).1))).ok, (rok.names _ (pmO.mem_iff.mp (List.mem_of_mem_take (e5 x hx).2.1))).ok⟩
    generalize upd H6 r5 (.lst []) = H7 at *
    walk_at "aa"
    refine a_enumT hR6 ?_
    have Fr : Same (drop r5 H7) H7 := drop_le
    have itE := it_enumT (K := K) (F := drop r5 H7) (a := r) (xs := R.map V.str) (by rw [drop_ne (by rintro rfl; rw [r7] at hR6; cases hR6)]; exact hR6)
    rw [List.length_map] at itE
    refine for_go (F := drop r5 H7) (n := R.length) itE (fun i σ H' => Same (drop r5 H7) H' ∧ (∃ (ws : List V) (qs : List (Str × Str)), H' r5 = some (.lst ws) ∧ PairsAt H' ws qs ∧ qs.Nodup ∧ qs.length ≤ 8 * i ∧ ∀ q ∈ qs, q.1 ∈ R.take i ∧ q.2 ∈ R ∧ ltS q.1 q.2 = true ∧ q ∉ ps) ∧ ∃ q4 q8, σ = [some (.ref p), some (.ref r), some (.int m), some (.bl (decide (0 < j5))), q4, some (.ref r5), some (.ref o), some (.ref f3), q8, q9, none]) ?_ (fun _ _ _ h => h.1) ?_ ?_ ?_
    · exact ⟨Fr, ⟨[], [], r7, .nil, .nil, by simp, fun q h => nomatch h⟩, _, _, rfl⟩
    · rintro i σ Ha Hb s ⟨g1, ⟨us, ps, e1, e2, e3⟩, g4⟩
      exact ⟨g1.trans s, ⟨us, ps, s _ _ e1, e2.ts (tsS s), e3⟩, g4⟩
    · rintro i x σ H8 hi ⟨v1, ⟨ws, qs, w1, w2, w3, w4, w5⟩, q4, q8, rfl⟩ ⟨T1, x1, rfl, hT1, ex1⟩
      obtain ⟨a, ea, rfl⟩ : ∃ a, R[i]? = some a ∧ x1 = .str a := by
        rw [List.getElem?_map] at ex1
        cases g : R[i]? with
        | none => rw [g] at ex1; cases ex1
        | some a => rw [g] at ex1; exact ⟨a, rfl, (Option.some.inj ex1).symm⟩
      refine a_gtup hT1 rfl ?_
      walk_at "aa"
      have hr8 := v1 _ _ (show drop r5 H7 r = _ by rw [drop_ne (by rintro rfl; rw [r7] at hR6; cases hR6)]; exact hR6)
      have hf8 := v1 _ _ (show drop r5 H7 f3 = _ by rw [drop_ne rf.symm]; exact e17)
      have pf8 : PairsAt H8 us ps := e27.ts fun b xs e => v1 _ _ (by rw [drop_ne (by rintro rfl; rw [r7] at e; cases e)]; exact e)
      refine ⟨ty_lst w1, ?_⟩
      walk_at "aa"
      refine a_slT hr8 fun t9 H9 s9 h9 => ?_
      have h9 : H9 t9 = some (.tup ((R.drop (i + 1)).map V.str)) := by
        rw [cut_drop (show (i : Int) + 1 = ((i + 1 : Nat) : Int) by omega)] at h9
        rw [List.map_drop]; exact h9
      refine ⟨t9, rfl, ⟨_, SqT.of h9⟩, fun D nD => ?_⟩
      have itD := it_tup (K := K) h9
      rw [List.length_map] at itD
      have ok1 : ∀ z ∈ R, strOk z = true := fun z hz => (rok.names z hz).ok
      have ma : a ∈ R := List.mem_of_getElem? ea
      refine lcB_go (F := H9) itD (Same.refl H9) nD (fun j acc H' => ∃ qs2 : List (Str × Str), PairsAt (drop D H') acc qs2 ∧ qs2.Nodup ∧ ∀ q ∈ qs2, q.1 = a ∧ q.2 ∈ (R.drop (i + 1)).take j ∧ q ∉ ps) ⟨[], .nil, .nil, fun q h => nomatch h⟩ ?_ ?_ ?_
      · rintro j acc Ha Hb b ⟨qs2, y1, y2, y3⟩
        exact ⟨qs2, y1.ts (ts_drop b), y2, y3⟩
      · rintro j acc H10 x hj sF hD lc ⟨qs2, y1, y2, y3⟩ ex
        obtain ⟨b, eb, rfl⟩ : ∃ b, (R.drop (i + 1))[j]? = some b ∧ x = .str b := by
          rw [List.getElem?_map] at ex
          cases g : (R.drop (i + 1))[j]? with
          | none => rw [g] at ex; cases ex
          | some a => rw [g] at ex; exact ⟨a, rfl, (Option.some.inj ex).symm⟩
        walk_at "aa"
        refine ⟨rfl, ?_⟩
        walk_at "aa"
        have hb : b ∈ R := List.mem_of_mem_drop (List.mem_of_getElem? eb)
        refine ⟨by show 2 ≤ sizeLine; decide, fun T2 n2 => ?_⟩
        have s2 := same_new (o := .tup [.str a, .str b]) n2
        have hT2 : upd H10 T2 (.tup [.str a, .str b]) T2 = some (.tup [.str a, .str b]) := upd_same
        have hD2 := s2 _ _ hD
        have sF2 := sF.trans s2
        have y12 : PairsAt (drop D (upd H10 T2 (.tup [.str a, .str b]))) acc qs2 := y1.ts (ts_drop (But.of s2))
        generalize upd H10 T2 (.tup [.str a, .str b]) = H11 at *
        walk_at "aa"
        refine a_notinP (p := (a, b)) hT2 (sF2 _ _ (s9 _ _ hf8)) (pf8.ts (tsS (s9.trans sF2))) ⟨ok1 _ ma, ok1 _ hb⟩ oks ?_
        walk_at "aa"
        refine iteDN (fun c => ?_) (fun c => ?_)
        · walk_at "aa"
          refine ⟨by show 2 ≤ sizeLine; decide, fun T3 n3 => ?_⟩
          have s3' := same_new (o := .tup [.str a, .str b]) n3
          have hD3 := s3' _ _ hD2
          have T3D : T3 ≠ D := by rintro rfl; rw [hD2] at n3; cases n3
          refine lcB_put (R := fun j acc H' => ∃ qs2 : List (Str × Str), PairsAt (drop D H') acc qs2 ∧ qs2.Nodup ∧ ∀ q ∈ qs2, q.1 = a ∧ q.2 ∈ (R.drop (i + 1)).take j ∧ q ∉ ps) (by simp at hj; omega) nD ?_ (sF2.trans s3') hD3 lc ⟨qs2 ++ [(a, b)], ?_, ?_, fun q h => ?_⟩
          · rintro j acc Ha Hb b ⟨qs2, y1, y2, y3⟩
            exact ⟨qs2, y1.ts (ts_drop b), y2, y3⟩
          · exact paired_app (y12.ts (ts_drop (But.of s3'))) (.cons ⟨T3, rfl, by rw [drop_ne T3D]; exact upd_same⟩ .nil)
          · refine List.nodup_append.mpr ⟨y2, by simp, fun u hu v hv => ?_⟩
            rintro rfl
            rw [List.mem_singleton] at hv
            subst hv
            have := (y3 _ hu).2.1
            exact nth_new ((rnodup rok).sublist (List.drop_sublist _ _)) eb this
          · rcases List.mem_append.mp h with h | h
            · exact ⟨(y3 _ h).1, take_up (y3 _ h).2.1, (y3 _ h).2.2⟩
            · rw [List.mem_singleton] at h
              subst h
              exact ⟨rfl, nth_take eb, c⟩
        · exact ⟨acc, sF2, hD2, by omega, qs2, y12, y2, fun q h => ⟨(y3 _ h).1, take_up (y3 _ h).2.1, (y3 _ h).2.2⟩⟩
      · rintro acc H10 sF hD lc ⟨qs2, y1, y2, y3⟩
        walk_at "aa"
        have r10 := sF _ _ (s9 _ _ w1)
        have rD : D ≠ r5 := by rintro rfl; rw [s9 _ _ w1] at nD; cases nD
        have lws := Paired.length w2
        simp at lc
        refine ⟨r5, D, ws, acc, rfl, rfl, r10, hD, ?_, ?_⟩
        · have : ws.length + acc.length ≤ 72 := by have := rok.most; omega
          exact Nat.le_trans this (by decide)
        walk_at "aa"
        have tsm : Tsm (drop D H10) (upd H10 r5 (.lst (ws ++ acc))) := fun t xs e => by
          have e := drop_le _ _ e
          rw [upd_ne (by rintro rfl; rw [r10] at e; cases e)]; exact e
        have tsm2 : Tsm H8 (upd H10 r5 (.lst (ws ++ acc))) := fun t xs e => by
          rw [upd_ne (by rintro rfl; rw [w1] at e; cases e)]; exact sF _ _ (s9 _ _ e)
        refine ⟨fun b u e => ?_, ⟨ws ++ acc, qs ++ qs2, upd_same, paired_app (w2.ts tsm2) (y1.ts tsm), ?_, ?_, fun q h => ?_⟩, _, _, rfl⟩
        · rw [upd_ne (by rintro rfl; rw [drop_same] at e; cases e)]
          exact sF _ _ (s9 _ _ (v1 _ _ e))
        · refine List.nodup_append.mpr ⟨w3, y2, fun u hu v hv => ?_⟩
          rintro rfl
          have h1 := (w5 _ hu).1
          rw [(y3 _ hv).1] at h1
          exact nth_new (rnodup rok) ea h1
        · have := Paired.length y1
          have := rok.most
          simp; omega
        · rcases List.mem_append.mp h with h | h
          · have := w5 _ h
            exact ⟨take_up this.1, this.2⟩
          · have := y3 _ h
            have m2 := List.mem_of_mem_take this.2.1
            refine ⟨by rw [this.1]; exact nth_take ea, List.mem_of_mem_drop m2, ?_, this.2.2⟩
            rw [this.1]
            exact asc_after rok ea m2
    · rintro σ H8 ⟨v1, ⟨ws, qs, w1, w2, w3, w4, w5⟩, q4, q8, rfl⟩
      have hp8 : PotAt H8 p (c + 3 + 2 * (((O.map V.str).length : Int) - 1).toNat) := by
        obtain ⟨u1, u2, u3, e, rest⟩ := hp7
        exact ⟨u1, u2, u3, v1 _ _ (by rw [drop_ne rp.symm]; exact e), rest⟩
      have nO : (((O.map V.str).length : Int) - 1).toNat ≤ 7 := by simp; omega
      have b08 : But p H H8 := fun b u ne e => by
        have e5' := b05 _ _ ne e
        have nf : b ≠ f3 := by rintro rfl; rw [f0] at e; cases e
        have e6 := g1 _ _ (show drop f3 (drop p H5) b = _ by rw [drop_ne nf, drop_ne ne]; exact e5')
        have nr : b ≠ r5 := by rintro rfl; rw [n5] at e6; cases e6
        exact v1 _ _ (by rw [drop_ne nr]; exact s5 _ _ e6)
      have hf8 := v1 _ _ (show drop r5 H7 f3 = _ by rw [drop_ne rf.symm]; exact e17)
      have pf8 : PairsAt H8 us ps := e27.ts fun b xs e => v1 _ _ (by rw [drop_ne (by rintro rfl; rw [r7] at e; cases e)]; exact e)
      have po : ∀ q ∈ ps, q.1 ∈ R ∧ q.2 ∈ R ∧ ltS q.1 q.2 = true := fun q h => ⟨pmO.mem_iff.mp (List.mem_of_mem_take (e5 q h).1), pmO.mem_iff.mp (List.mem_of_mem_take (e5 q h).2.1), (e5 q h).2.2⟩
      have lws := Paired.length w2
      have lus := Paired.length e2
      walk_at "aa"
      refine ⟨Nat.zero_le _, fun t9 n9 => ?_⟩
      have s9 := same_new (o := .lst []) n9
      have f9 := s9 _ _ hf8
      have hp9 := hp8.same s9
      have b09 := b08.same s9
      refine a_neNilP (s9 _ _ w1) (w2.ts (tsS s9)) upd_same (fun x hx => ⟨(rok.names _ (List.mem_of_mem_take (w5 x hx).1)).ok, (rok.names _ (w5 x hx).2.1).ok⟩) ?_
      have w19 := s9 _ _ w1
      have w29 := w2.ts (tsS s9)
      have pf9 := pf8.ts (tsS s9)
      generalize upd H8 t9 (.lst []) = H9 at *
      walk_at "aa"
      refine iteDN (fun c9 => ?_) (fun c9 => ?_)
      · walk_at "aa"
        refine ⟨p, r5, _, ws, rfl, hp9, by omega, w19, rp, ?_, by have := rok.most; omega, fun t10 H10 ys n10 pm h10 b10 hp10 => ?_⟩
        · rintro rfl
          cases qs with
          | nil => exact c9 rfl
          | cons a b => simp at lws
        obtain ⟨qs', y1, y2⟩ := paired_perm pm _ (w29.ts (ts_but b10 hp9))
        have f10 := b10 _ _ fp f9
        walk_at "aa"
        have lys := Paired.length y1
        have lqs := y2.length_eq
        have l8' := rok.most
        refine a_slL h10 fun t11 H11 n11 s11 h11 => ?_
        have hn : ∃ n : Nat, (if (m : Int) - us.length > 0 then (m : Int) - us.length else 0) = (n : Int) ∧ us.length + n ≤ 16 := by
          by_cases g : (m : Int) - us.length > 0
          · rw [if_pos g]; exact ⟨m - us.length, by omega, by omega⟩
          · rw [if_neg g]; exact ⟨0, rfl, by omega⟩
        obtain ⟨n, en, hn⟩ := hn
        rw [en, cut_take rfl] at h11
        refine a_cat (s11 _ _ f10) h11 (by simp; omega) fun t12 H12 n12 s12 h12 => ?_
        have s1012 := s11.trans s12
        have n10' : H10 t12 = none := by
          cases g : H10 t12 with
          | none => rfl
          | some u => rw [s11 _ _ g] at n12; cases n12
        have b010 : But p H H10 := fun b u ne e => b10 _ _ ne (b09 _ _ ne e)
        refine k t12 H12 _ (ps ++ qs'.take n) ⟨?_, fun q h => ?_⟩ ?_ (paired_app ((pf9.ts (ts_but b10 hp9)).ts (tsS s1012)) (paired_take n (PairsAt.ts (tsS s1012) y1))) (b010.none hp10 n10') h12 (b010.same s1012) ((hp10.same s1012).more (by omega))
        · refine List.nodup_append.mpr ⟨e3, (y2.symm.nodup w3).sublist (List.take_sublist _ _), fun u hu v hv => ?_⟩
          rintro rfl
          exact (w5 u (y2.mem_iff.mp (List.mem_of_mem_take hv))).2.2.2 hu
        · rcases List.mem_append.mp h with h | h
          · exact po q h
          · have := w5 q (y2.mem_iff.mp (List.mem_of_mem_take h))
            exact ⟨List.mem_of_mem_take this.1, this.2.1, this.2.2.1⟩
        · rw [List.length_append, List.length_take]; omega
      · walk_at "aa"
        exact k f3 H9 us ps ⟨e3, po⟩ (by omega) pf9 f0 f9 b09 (hp9.more (by omega))
end QB
set_option Elab.async false
set_option linter.all false
set_option maxRecDepth 100000
set_option maxHeartbeats 4000000

set_option pp.deepTerms false
set_option pp.deepTerms.threshold 10
namespace QB
open PySem PySem.Spec L2
open PyProof.Rows (envOfC)
open PySem.PyData (strOk)
open RZ (Ty4 rIsTy call_isTy pi_zipA iZipA ItzT for_zipT for_zipL)
open StX (tStar pa_star)
open QS (SrtR tSrt rSrtI rSrtS rSrtT)
open QT (AllQ Ole Olt)
local macro_rules | `(tactic| walk_at "hp") => `(tactic| first | assumption | exact upd_same | (refine sg (by assumption) ?_; walk_at "hp"))
local macro_rules | `(tactic| walk_at "a") => `(tactic| first
  | with_reducible refine a_seq ?_ | with_reducible refine a_asg ?_ | with_reducible refine a_drop ?_ | with_reducible refine a_ret ?_ | with_reducible refine a_retN ?_
  | with_reducible refine a_ifS ?_ | with_reducible refine a_next ?_ | with_reducible refine a_gname ?_ | with_reducible refine a_nx ?_ | with_reducible refine a_rt ?_ | with_reducible refine a_bk ?_ | with_reducible refine a_ct ?_
  | ((with_reducible show tVar _ _ _ _); refine a_var rfl ?_) | with_reducible refine a_c ?_ | with_reducible refine a_op ?_ | with_reducible refine a_un ?_ | with_reducible refine a_cb ?_ | with_reducible refine a_nil ?_ | with_reducible refine a_cons ?_
  | with_reducible refine a_call ?_ | with_reducible refine a_meth ?_ | with_reducible refine a_make ?_ | with_reducible refine a_test ?_ | with_reducible refine a_tTest ?_ | with_reducible refine a_tand ?_ | with_reducible refine a_tor ?_ | with_reducible refine a_tnot ?_
  | with_reducible refine a_and ?_ | with_reducible refine a_or ?_ | with_reducible refine a_not ?_ | with_reducible refine a_if ?_ | with_reducible refine a_ri0 ?_ | with_reducible refine a_tup ?_ | with_reducible refine a_lst ?_
  | with_reducible refine a_bl ?_ | with_reducible refine a_sfld ?_ | with_reducible refine a_exI ?_ | with_reducible refine a_exZ ?_ | with_reducible refine a_chain ?_ | with_reducible refine a_lc ?_ | with_reducible refine a_yes ?_ | with_reducible refine a_gcons ?_ | with_reducible refine a_gnil ?_ | with_reducible refine w_list ?_ | with_reducible refine w_tup ?_ | with_reducible refine w_str ?_ | with_reducible refine w_rng1 ?_ | with_reducible refine w_zip ?_ | with_reducible refine w_zipA ?_
  | with_reducible refine a_tFld ?_ | with_reducible refine a_dget ?_ | with_reducible refine a_din ?_ | with_reducible refine a_dnin ?_ | with_reducible refine a_sl ?_ | with_reducible refine a_slNone ?_ | with_reducible refine a_slSome ?_
  | with_reducible refine a_isN ?_ | with_reducible refine a_notN ?_ | with_reducible refine a_eqI ?_ | with_reducible refine a_neI ?_ | with_reducible refine a_eqZ ?_ | with_reducible refine a_neZ ?_ | with_reducible refine a_ltZ ?_ | with_reducible refine a_int ?_ | with_reducible refine a_intB ?_ | with_reducible refine a_abs ?_ | with_reducible refine a_max2 ?_ | with_reducible refine a_min2 ?_ | with_reducible refine a_bm ?_
  | ((with_reducible show rLenQ _ _ _ _); first | refine a_lenT (by walk_at "hp") ?_ | refine a_lenL (by walk_at "hp") ?_)
  | with_reducible refine a_prsC ?_ | with_reducible refine a_prsN ?_ | with_reducible refine a_for ?_ | with_reducible refine a_dput ?_ | with_reducible refine w_keys ?_ | with_reducible refine w_listT ?_
  | with_reducible refine QB.a_rU ?_ | with_reducible refine QB.a_cKw ?_ | with_reducible refine QB.a_star ?_ | with_reducible refine QB.a_dget2 ?_
  | with_reducible refine QB.a_par ?_ | with_reducible refine QB.a_par3 ?_
  | with_reducible refine QB.a_srt ?_
  | with_reducible refine QB.a_dc ?_
  | with_reducible refine iteT ?_ | with_reducible refine iteNT ?_ | with_reducible refine iteNF ?_ | with_reducible refine iteF ?_ | with_reducible refine a_prop ?_)
local macro_rules | `(tactic| walk_at "aa") => `(tactic| (walk_at "a"; repeat walk_at "a"))

variable {P : Program} {w : World} {K : PySem.W.Frag} {mg : Str → Option Value} {base : Heap} {CN CC : Addr}
/-- a world: its routers, its links -/
def WorldAt (H : Hp) (a : Addr) (R : List Str) (ls : List Lnk) : Prop := ∃ r l vs, H a = some (.tup [.ref r, .ref l]) ∧ H r = some (.tup (R.map V.str)) ∧ H l = some (.tup vs) ∧ LinksAt H vs ls
theorem WorldAt.ts {H H' : Hp} {a : Addr} {R : List Str} {ls : List Lnk} (s : Tsm H H') (h : WorldAt H a R ls) : WorldAt H' a R ls := by
  obtain ⟨r, l, vs, h1, h2, h3, h4⟩ := h
  exact ⟨r, l, vs, s _ _ h1, s _ _ h2, s _ _ h3, h4.ts s⟩
def spMade (CN : Addr) : Sp := fun vs H Q _ => ∃ (a : Addr) (R : List Str) (ls : List Lnk), vs = [.ref a] ∧ WorldAt H a R ls ∧ RoutersOk R ∧ LinksOk R ls ∧ ∀ (n : Addr) (H' : Hp), Same H H' → NetAt CN H' n R ls → Q (.ref n) H'
abbrev N__law_made : List Str := ["_law_world_here"]
theorem sc__law_made : FnScope N__law_made ["_law_world_here"] (defScope QH.s__law_made) := ⟨rfl, rfl, rfl, by decide +kernel, rfl, by decide +kernel, by decide +kernel⟩
theorem D_law_made (T : Tx P w K mg base CN CC) (F : FunAt K mg "_law_made" QH.s__law_made) (C_Net : MakeOk P w K mg base "Net" CN ["self", "routers", "links"] (spNetInit CN) 5) : DefOk P w K mg base "_law_made" ["_law_world_here"] (spMade CN) 7 := by
  refine mk_def F sc__law_made (fun _ _ _ _ _ _ us hl => match us, hl with | [_], _ => rfl) (fun vs H Q E h => by obtain ⟨a, R, ls, rfl, _⟩ := h; rfl) (fun f cdv A outer s0 H vs Q E hr h => ?_)
  have nd := sc__law_made.nd
  obtain ⟨a, R, ls, rfl, ⟨r, l, vs, h1, h2, h3, h4⟩, ok1, ok2, q⟩ := h
  refine ⟨_, (pss_one (ps_ret (pe_makeD C_Net (hr.mono (by decide)) (by rfl) (pa_cons (pe_ix (ki_ixT (K := K)) (pv 0) pe_int (fun _ _ => rfl)) (pa_cons (pe_ix (ki_ixT (K := K)) (pv 0) pe_int (fun _ _ => rfl)) pa_nil))))), ?_⟩
  walk_at "aa"
  refine a_ixT h1 rfl ?_
  walk_at "aa"
  refine a_ixT h1 rfl ?_
  walk_at "aa"
  exact mk_net h2 h3 h4 ok1 ok2 q
def spWith : Sp := fun vs H Q _ => ∃ (a : Addr) (R : List Str) (ls : List Lnk) (l : Lnk), vs = [.ref a, .str l.a, .str l.b, .int l.th, .int l.bk] ∧ WorldAt H a R ls ∧ RoutersOk R ∧ LinksOk R ls ∧ LinkOk R l ∧ (less ls l.a l.b).length < 16 ∧ ∀ (n : Addr) (H' : Hp) (ms : List Lnk), Same H H' → WorldAt H' n R ms → LinksOk R ms → ms ≠ [] → Q (.ref n) H'
abbrev N__law_with : List Str := ["_law_world_here", "_law_a", "_law_b", "_law_there", "_law_back", "_law_kept", "_law_link"]
theorem sc__law_with : FnScope N__law_with ["_law_world_here", "_law_a", "_law_b", "_law_there", "_law_back"] (defScope QH.s__law_with) := ⟨rfl, rfl, rfl, by decide +kernel, rfl, by decide +kernel, by decide +kernel⟩
theorem D_law_with (T : Tx P w K mg base CN CC) (F : FunAt K mg "_law_with" QH.s__law_with) : DefOk P w K mg base "_law_with" ["_law_world_here", "_law_a", "_law_b", "_law_there", "_law_back"] spWith 1 := by
  refine mk_def F sc__law_with (fun _ _ _ _ _ _ us hl => match us, hl with | [_, _, _, _, _], _ => rfl) (fun vs H Q E h => by obtain ⟨a, R, ls, l, rfl, _⟩ := h; rfl) (fun f cdv A outer s0 H vs Q E hr h => ?_)
  have nd := sc__law_with.nd
  obtain ⟨a, R, ls, l, rfl, ⟨r, la, vs, h1, h2, h3, h4⟩, ok1, ok2, ol, few, q⟩ := h
  have m16 := ok2.most
  refine ⟨_, (pss_cons (ps_setLc (i := 5) (own := [("_law_link", 6)]) (g := (gName 6)) rfl nd rfl rfl (sw_true rfl rfl rfl (by decide +kernel)) (ki_ptup (K := K) (pe_ix (ki_ixT (K := K)) (pv 0) pe_int (fun _ _ => rfl))) (blkOk_by (by with_unfolding_all rfl)) (fun _ _ _ _ _ => (pg_name (i := 6) nd rfl (by first | exact Or.inl rfl | exact Or.inr rfl))) (fun _ _ _ _ _ => (pts_one (pt_cmpR (ki_neD (K := K) hr.units) (pe_slice (ki_slA (K := K)) (pv 6) po_none (po_some pe_int)) (pe_tup (pa_cons (pv 1) (pa_cons (pv 2) pa_nil))) (nomark _)))) (fun _ _ _ _ _ => (pv 6)))
    (pss_one (ps_ret (pe_tup (pa_cons (pe_ix (ki_ixT (K := K)) (pv 0) pe_int (fun _ _ => rfl)) (pa_cons (pe_callTy (ki_tuple (K := K)) (by rfl) T.f_tuple (by decide +kernel) (pa_cons (QS.pe_srt (ki_srtT (K := K) rfl (hu65 hr)) (by rfl) T.f_sorted (by rfl) T.f_set (pe_op op_cat (pv 5) (pe_lst (pa_cons (pe_tup (pa_cons (pv 1) (pa_cons (pv 2) (pa_cons (pv 3) (pa_cons (pv 4) pa_nil))))) pa_nil)))) pa_nil)) pa_nil)))))), ?_⟩
  walk_at "aa"
  refine a_ixT h1 rfl ?_
  refine ⟨la, rfl, ⟨_, SqT.of h3⟩, fun D nD => ?_⟩
  refine lc_kept (a := l.a) (b := l.b) h3 h4 (by omega) (fun y hy => ⟨((ok2.each y hy).na ok1).ok, ((ok2.each y hy).nb ok1).ok⟩) (ol.na ok1).ok (ol.nb ok1).ok nD (fun _ => rfl) (fun _ => rfl) (fun _ => rfl) (fun _ => rfl) fun acc H5 s5 hD hacc => ?_
  have lacc := hacc.length
  walk_at "aa"
  refine a_ixT (s5 _ _ h1) rfl ?_
  walk_at "aa"
  refine ⟨by show 4 ≤ sizeLine; decide, fun t6 n6 => ?_⟩
  have s6 := same_new (o := .tup [.str l.a, .str l.b, .int l.th, .int l.bk]) n6
  walk_at "aa"
  refine ⟨by show 1 ≤ sizeLine; decide, fun t7 n7 => ?_⟩
  have s7 := same_new (o := .lst [.ref t6]) n7
  have s67 := s6.trans s7
  refine a_cat (s67 _ _ hD) upd_same (by simp; omega) fun p8 H8 n8 s8 h8 => ?_
  have s68 := s67.trans s8
  have hall : LinksAt H8 (acc ++ [.ref t6]) (less ls l.a l.b ++ [l]) := (hacc.ts (tsS s68)).snoc ⟨t6, rfl, s8 _ _ (s7 _ _ upd_same)⟩
  refine a_srtT h8 hall (with_nd ok2) (by simp; omega) fun zs ms p9 H9 pm pw n9 s9 h9 hms => ?_
  obtain ⟨om, wl⟩ := with_ok ok2 ol few pm pw
  walk_at "aa"
  refine a_tupL h9 fun pt H10 n10 s10 h10 => ?_
  walk_at "aa"
  refine ⟨by show 2 ≤ sizeLine; decide, fun t11 n11 => ?_⟩
  have s11 := same_new (o := .tup [.ref r, .ref pt]) n11
  have sE := s5.trans (s68.trans (s9.trans (s10.trans s11)))
  refine q t11 _ ms sE ⟨r, pt, zs, upd_same, sE _ _ h2, s11 _ _ h10, hms.ts (tsS (s10.trans s11))⟩ om ?_
  rintro rfl
  have := pm.length_eq
  simp at this
def spWithout0 : Sp := fun vs H Q _ => ∃ (a : Addr) (R : List Str) (ls : List Lnk) (x y : Str), vs = [.ref a, .str x, .str y] ∧ WorldAt H a R ls ∧ RoutersOk R ∧ LinksOk R ls ∧ x ∈ R ∧ y ∈ R ∧ ∀ (n : Addr) (H' : Hp), Same H H' → WorldAt H' n R (less ls x y) → Q (.ref n) H'
abbrev N__law_without : List Str := ["_law_world_here", "_law_a", "_law_b", "_law_link"]
theorem sc__law_without : FnScope N__law_without ["_law_world_here", "_law_a", "_law_b"] (defScope QH.s__law_without) := ⟨rfl, rfl, rfl, by decide +kernel, rfl, by decide +kernel, by decide +kernel⟩
theorem D_law_without (T : Tx P w K mg base CN CC) (F : FunAt K mg "_law_without" QH.s__law_without) : DefOk P w K mg base "_law_without" ["_law_world_here", "_law_a", "_law_b"] spWithout0 1 := by
  refine mk_def F sc__law_without (fun _ _ _ _ _ _ us hl => match us, hl with | [_, _, _], _ => rfl) (fun vs H Q E h => by obtain ⟨a, R, ls, x, y, rfl, _⟩ := h; rfl) (fun f cdv A outer s0 H vs Q E hr h => ?_)
  have nd := sc__law_without.nd
  obtain ⟨a, R, ls, x, y, rfl, ⟨r, la, vs, h1, h2, h3, h4⟩, ok1, ok2, xr, yr, q⟩ := h
  have m16 := ok2.most
  refine ⟨_, (pss_one (ps_ret (pe_tup (pa_cons (pe_ix (ki_ixT (K := K)) (pv 0) pe_int (fun _ _ => rfl)) (pa_cons (pe_callTy (ki_tuple (K := K)) (by rfl) T.f_tuple (by decide +kernel) (pa_cons (pe_lc (own := [("_law_link", 3)]) (g := (gName 3)) rfl nd (ki_ptup (K := K) (pe_ix (ki_ixT (K := K)) (pv 0) pe_int (fun _ _ => rfl))) (blkOk_by (by with_unfolding_all rfl)) (fun _ _ _ _ _ => (pg_name (i := 3) nd rfl (by first | exact Or.inl rfl | exact Or.inr rfl))) (fun _ _ _ _ _ => (pts_one (pt_cmpR (ki_neD (K := K) hr.units) (pe_slice (ki_slA (K := K)) (pv 3) po_none (po_some pe_int)) (pe_tup (pa_cons (pv 1) (pa_cons (pv 2) pa_nil))) (nomark _)))) (fun _ _ _ _ _ => (pv 3))) pa_nil)) pa_nil))))), ?_⟩
  walk_at "aa"
  refine a_ixT h1 rfl ?_
  walk_at "aa"
  refine a_ixT h1 rfl ?_
  refine ⟨la, rfl, ⟨_, SqT.of h3⟩, fun D nD => ?_⟩
  refine lc_kept (a := x) (b := y) h3 h4 (by omega) (fun y hy => ⟨((ok2.each y hy).na ok1).ok, ((ok2.each y hy).nb ok1).ok⟩) (ok1.names _ xr).ok (ok1.names _ yr).ok nD (fun _ => rfl) (fun _ => rfl) (fun _ => rfl) (fun _ => rfl) fun acc H5 s5 hD hacc => ?_
  walk_at "aa"
  refine a_tupL hD fun pt H10 n10 s10 h10 => ?_
  walk_at "aa"
  refine ⟨by show 2 ≤ sizeLine; decide, fun t11 n11 => ?_⟩
  have s11 := same_new (o := .tup [.ref r, .ref pt]) n11
  have sE := s5.trans (s10.trans s11)
  exact q t11 _ sE ⟨r, pt, acc, upd_same, sE _ _ h2, s11 _ _ h10, hacc.ts (tsS (s10.trans s11))⟩
end QB
set_option Elab.async false
set_option linter.all false
set_option maxRecDepth 100000
set_option maxHeartbeats 4000000

set_option pp.deepTerms false
set_option pp.deepTerms.threshold 10
namespace QB
open PySem PySem.Spec L2
open PyProof.Rows (envOfC)
open PySem.PyData (strOk)
open RZ (Ty4 rIsTy call_isTy pi_zipA iZipA ItzT for_zipT for_zipL)
open StX (tStar pa_star)
open QS (SrtR tSrt rSrtI rSrtS rSrtT)
open QT (AllQ Ole Olt)
local macro_rules | `(tactic| walk_at "hp") => `(tactic| first | assumption | exact upd_same | (refine sg (by assumption) ?_; walk_at "hp"))
local macro_rules | `(tactic| walk_at "a") => `(tactic| first
  | with_reducible refine a_seq ?_ | with_reducible refine a_asg ?_ | with_reducible refine a_drop ?_ | with_reducible refine a_ret ?_ | with_reducible refine a_retN ?_
  | with_reducible refine a_ifS ?_ | with_reducible refine a_next ?_ | with_reducible refine a_gname ?_ | with_reducible refine a_nx ?_ | with_reducible refine a_rt ?_ | with_reducible refine a_bk ?_ | with_reducible refine a_ct ?_
  | ((with_reducible show tVar _ _ _ _); refine a_var rfl ?_) | with_reducible refine a_c ?_ | with_reducible refine a_op ?_ | with_reducible refine a_un ?_ | with_reducible refine a_cb ?_ | with_reducible refine a_nil ?_ | with_reducible refine a_cons ?_
  | with_reducible refine a_call ?_ | with_reducible refine a_meth ?_ | with_reducible refine a_make ?_ | with_reducible refine a_test ?_ | with_reducible refine a_tTest ?_ | with_reducible refine a_tand ?_ | with_reducible refine a_tor ?_ | with_reducible refine a_tnot ?_
  | with_reducible refine a_and ?_ | with_reducible refine a_or ?_ | with_reducible refine a_not ?_ | with_reducible refine a_if ?_ | with_reducible refine a_ri0 ?_ | with_reducible refine a_tup ?_ | with_reducible refine a_lst ?_
  | with_reducible refine a_bl ?_ | with_reducible refine a_sfld ?_ | with_reducible refine a_exI ?_ | with_reducible refine a_exZ ?_ | with_reducible refine a_chain ?_ | with_reducible refine a_lc ?_ | with_reducible refine a_yes ?_ | with_reducible refine a_gcons ?_ | with_reducible refine a_gnil ?_ | with_reducible refine w_list ?_ | with_reducible refine w_tup ?_ | with_reducible refine w_str ?_ | with_reducible refine w_rng1 ?_ | with_reducible refine w_zip ?_ | with_reducible refine w_zipA ?_
  | with_reducible refine a_tFld ?_ | with_reducible refine a_dget ?_ | with_reducible refine a_din ?_ | with_reducible refine a_dnin ?_ | with_reducible refine a_sl ?_ | with_reducible refine a_slNone ?_ | with_reducible refine a_slSome ?_
  | with_reducible refine a_isN ?_ | with_reducible refine a_notN ?_ | with_reducible refine a_eqI ?_ | with_reducible refine a_neI ?_ | with_reducible refine a_eqZ ?_ | with_reducible refine a_neZ ?_ | with_reducible refine a_ltZ ?_ | with_reducible refine a_int ?_ | with_reducible refine a_intB ?_ | with_reducible refine a_abs ?_ | with_reducible refine a_max2 ?_ | with_reducible refine a_min2 ?_ | with_reducible refine a_bm ?_
  | ((with_reducible show rLenQ _ _ _ _); first | refine a_lenT (by walk_at "hp") ?_ | refine a_lenL (by walk_at "hp") ?_)
  | with_reducible refine a_prsC ?_ | with_reducible refine a_prsN ?_ | with_reducible refine a_for ?_ | with_reducible refine a_dput ?_ | with_reducible refine w_keys ?_ | with_reducible refine w_listT ?_
  | with_reducible refine QB.a_rU ?_ | with_reducible refine QB.a_cKw ?_ | with_reducible refine QB.a_star ?_ | with_reducible refine QB.a_dget2 ?_
  | with_reducible refine QB.a_par ?_ | with_reducible refine QB.a_par3 ?_
  | with_reducible refine QB.a_srt ?_
  | with_reducible refine QB.a_dc ?_
  | with_reducible refine iteT ?_ | with_reducible refine iteNT ?_ | with_reducible refine iteNF ?_ | with_reducible refine iteF ?_ | with_reducible refine a_prop ?_)
local macro_rules | `(tactic| walk_at "aa") => `(tactic| (walk_at "a"; repeat walk_at "a"))

variable {P : Program} {w : World} {K : PySem.W.Frag} {mg : Str → Option Value} {base : Heap} {CN CC : Addr}
/-- a link more in the list at f -/
theorem grow {F H : Hp} {f T p : Addr} {ws : List V} {c : Nat} {ls : List Lnk} (l : Lnk) (n : H T = none) (g : Same F H) (nf : F f = none) (hf : H f = some (.lst ws)) (hp : PotAt H p c) (fp : f ≠ p) (hl : LinksAt H ws ls) :
    upd H T (.tup [.str l.a, .str l.b, .int l.th, .int l.bk]) f = some (.lst ws) ∧ Same F (upd (upd H T (.tup [.str l.a, .str l.b, .int l.th, .int l.bk])) f (.lst (ws ++ [.ref T]))) ∧ PotAt (upd (upd H T (.tup [.str l.a, .str l.b, .int l.th, .int l.bk])) f (.lst (ws ++ [.ref T]))) p c ∧
    (upd (upd H T (.tup [.str l.a, .str l.b, .int l.th, .int l.bk])) f (.lst (ws ++ [.ref T]))) f = some (.lst (ws ++ [.ref T])) ∧ LinksAt (upd (upd H T (.tup [.str l.a, .str l.b, .int l.th, .int l.bk])) f (.lst (ws ++ [.ref T]))) (ws ++ [.ref T]) (ls ++ [l]) := by
  have s := same_new (o := .tup [.str l.a, .str l.b, .int l.th, .int l.bk]) n
  have f1 := s _ _ hf
  have tf : T ≠ f := by rintro rfl; rw [hf] at n; cases n
  have tsm : Tsm H (upd (upd H T (.tup [.str l.a, .str l.b, .int l.th, .int l.bk])) f (.lst (ws ++ [.ref T]))) := fun b xs e => by
    rw [upd_ne (by rintro rfl; rw [hf] at e; cases e)]
    exact s _ _ e
  refine ⟨f1, fun b u e => ?_, (hp.same s).but But.refl.upd fp.symm, upd_same, (hl.ts tsm).snoc ⟨T, rfl, by rw [upd_ne tf]; exact upd_same⟩⟩
  rw [upd_ne (by rintro rfl; rw [nf] at e; cases e)]
  exact s _ _ (g _ _ e)
def spWorld : Sp := fun vs H Q _ => ∃ (p : Addr) (c : Nat), vs = [.ref p, .int 3, .int 6, .int 5] ∧ PotAt H p c ∧ c ≤ 600000 ∧ ∀ (n : Addr) (H' : Hp) (R : List Str) (ls : List Lnk), WorldAt H' n R ls → RoutersOk R → LinksOk R ls → But p H H' → PotAt H' p (c + 200) → Q (.ref n) H'
abbrev N__law_world : List Str := ["_law_pot_here", "_law_least", "_law_most", "_law_more", "_law_many", "_law_routers", "_law_pairs_here", "_law_links", "_law_is_even", "_law_a", "_law_b", "_law_there"]
theorem sc__law_world : FnScope N__law_world ["_law_pot_here", "_law_least", "_law_most", "_law_more"] (defScope QH.s__law_world) := ⟨rfl, rfl, rfl, by decide +kernel, rfl, by decide +kernel, by decide +kernel⟩
theorem D_law_world (T : Tx P w K mg base CN CC) (F : FunAt K mg "_law_world" QH.s__law_world) (D_law_take : DefOk P w K mg base "_law_take" ["_law_pot_here", "_law_upto"] spTake 1) (D_law_names : DefOk P w K mg base "_law_names" ["_law_pot_here", "_law_many"] spNames 3) (D_law_pairs : DefOk P w K mg base "_law_pairs" ["_law_pot_here", "_law_routers", "_law_many"] spPairs 3) (D_law_far : DefOk P w K mg base "_law_far" ["_law_pot_here"] spFar 3) : DefOk P w K mg base "_law_world" ["_law_pot_here", "_law_least", "_law_most", "_law_more"] spWorld 4 := by
  refine mk_def F sc__law_world (fun _ _ _ _ _ _ us hl => match us, hl with | [_, _, _, _], _ => rfl) (fun vs H Q E h => by obtain ⟨p, c, rfl, _⟩ := h; rfl) (fun f cdv A outer s0 H vs Q E hr h => ?_)
  have nd := sc__law_world.nd
  obtain ⟨p, c, rfl, hp, hc, q⟩ := h
  refine ⟨_, (pss_cons (ps_set (i := 4) nd rfl (by first | exact Or.inl rfl | exact Or.inr rfl) (pe_op op_add (pv 1) (pe_callD D_law_take (hr.mono (by decide)) (by rfl) (pa_cons (pv 0) (pa_cons (pe_op op_add (pe_op op_sub (pv 2) (pv 1)) pe_int) pa_nil)))))
    (pss_cons (ps_set (i := 5) nd rfl (by first | exact Or.inl rfl | exact Or.inr rfl) (pe_callTy (ki_tuple (K := K)) (by rfl) T.f_tuple (by decide +kernel) (pa_cons (pe_callD D_law_names (hr.mono (by decide)) (by rfl) (pa_cons (pv 0) (pa_cons (pv 4) pa_nil))) pa_nil)))
    (pss_cons (ps_set (i := 6) nd rfl (by first | exact Or.inl rfl | exact Or.inr rfl) (pe_callD D_law_pairs (hr.mono (by decide)) (by rfl) (pa_cons (pv 0) (pa_cons (pv 5) (pa_cons (pe_callB (c_min2 rfl) (by rfl) T.f_min (by decide +kernel) (pa_cons pe_int (pa_cons (pe_op op_add (pe_op op_sub (pv 4) pe_int) (pe_callD D_law_take (hr.mono (by decide)) (by rfl) (pa_cons (pv 0) (pa_cons (pe_op op_add (pv 3) pe_int) pa_nil)))) pa_nil))) pa_nil)))))
    (pss_cons (ps_par (i := 7) (j := 8) (by rfl) nd rfl rfl (by decide) rfl rfl (pa_cons (pe_lst pa_nil) (pa_cons (pe_cmpR op_eq (pe_callD D_law_take (hr.mono (by decide)) (by rfl) (pa_cons (pv 0) (pa_cons pe_int pa_nil))) pe_int (nomark _)) pa_nil)) (by rfl))
    (pss_cons (ps_for PassesOwn.never rfl (ki_plist (K := K) (pv 6)) (ki_gtup (K := K) rfl (pgs_cons (pg_name (i := 9) nd rfl (by first | exact Or.inl rfl | exact Or.inr rfl)) (pgs_cons (pg_name (i := 10) nd rfl (by first | exact Or.inl rfl | exact Or.inr rfl)) pgs_nil))) (pss_cons (ps_set (i := 11) nd rfl (by first | exact Or.inl rfl | exact Or.inr rfl) (pe_callD D_law_far (hr.mono (by decide)) (by rfl) (pa_cons (pv 0) pa_nil)))
    (pss_one (ps_expr (pe_bm PySem.F.plainAttrs_list PySem.F.slot_list_append PySem.F.type_list_append mt_append (pv 7) (pa_cons (pe_tup (pa_cons (pv 9) (pa_cons (pv 10) (pa_cons (pv 11) (pa_cons (pe_ifExp (pt_val (pv 8)) (pv 11) (pe_callD D_law_far (hr.mono (by decide)) (by rfl) (pa_cons (pv 0) pa_nil))) pa_nil))))) pa_nil))))))
    (pss_one (ps_ret (pe_tup (pa_cons (pv 5) (pa_cons (pe_callTy (ki_tuple (K := K)) (by rfl) T.f_tuple (by decide +kernel) (pa_cons (QS.pe_srt (ki_srtT (K := K) rfl (hu65 hr)) (by rfl) T.f_sorted (by rfl) T.f_set (pv 7)) pa_nil)) pa_nil)))))))))), ?_⟩
  walk_at "aa"
  refine ⟨p, _, c, rfl, hp, by omega, by decide, by decide, fun k1 H1 k10 k11 b1 hp1 => ?_⟩
  walk_at "aa"
  refine ⟨p, (3 + k1).toNat, c + 1, ?_, hp1, by omega, by omega, by omega, fun r2 H2 R rok lR n2 h2 b2 hp2 => ?_⟩
  · rw [Int.toNat_of_nonneg (by omega)]
  walk_at "aa"
  refine a_tupL h2 fun t3 H3 n3 s3 h3 => ?_
  walk_at "aa"
  have hp3 := hp2.same s3
  refine ⟨p, _, _, rfl, hp3, by omega, by decide, by decide, fun k4 H4 k40 k41 b4 hp4 => ?_⟩
  walk_at "aa"
  have h4 := b4.tup hp3 h3
  have hm : ∃ m : Nat, (if 3 + k1 - 1 + k4 < 16 then 3 + k1 - 1 + k4 else 16) = (m : Int) ∧ m ≤ 16 := by
    by_cases g : 3 + k1 - 1 + k4 < 16
    · rw [if_pos g]; exact ⟨(3 + k1 - 1 + k4).toNat, by omega, by omega⟩
    · rw [if_neg g]; exact ⟨16, rfl, by decide⟩
  obtain ⟨m, em, m16⟩ := hm
  rw [em]
  refine ⟨p, t3, m, _, R, rfl, hp4, by omega, h4, rok, m16, fun t5 H5 us ps pok pl pat n5 h5 b5 hp5 => ?_⟩
  walk_at "aa"
  refine ⟨Nat.zero_le _, fun f6 n6 => ?_⟩
  have s6 := same_new (o := .lst []) n6
  have h56 := s6 _ _ h5
  have f66 : upd H5 f6 (.lst []) f6 = some (.lst []) := upd_same
  have hp6 := hp5.same s6
  have pat6 := pat.ts (tsS s6)
  have fp : f6 ≠ p := hp5.ne n6
  have t5f : t5 ≠ f6 := by rintro rfl; rw [h5] at n6; cases n6
  have t5p : t5 ≠ p := hp4.ne n5
  have h36 := s6 _ _ (b5.tup hp4 h4)
  have b06 : But p H (upd H5 f6 (.lst [])) := fun b o e h => s6 _ _ (b5 _ _ e (b4 _ _ e (s3 _ _ (b2 _ _ e (b1 _ _ e h)))))
  generalize upd H5 f6 (.lst []) = H6 at *
  walk_at "aa"
  refine ⟨p, _, _, rfl, hp6, by omega, by decide, by decide, fun j7 H7 _ _ b7 hp7 => ?_⟩
  walk_at "aa"
  refine ⟨_, _, rfl, ?_⟩
  have h57 := b7 _ _ t5p h56
  have f67 := b7 _ _ fp f66
  have h37 := b7.tup hp6 h36
  have pat7 : PairsAt H7 us ps := pat6.ts (ts_but b7 hp6)
  have b07 : But p H H7 := fun b o e h => b7 _ _ e (b06 _ _ e h)
  walk_at "aa"
  refine ⟨t5, rfl, ⟨_, SqL.of h57⟩, ?_⟩
  have nn : us.length = ps.length := Paired.length pat7
  have Fe : Same (drop f6 (drop p H7)) H7 := fun b u e => drop_le _ _ (drop_le _ _ e)
  have F5 : drop f6 (drop p H7) t5 = some (.lst us) := by rw [drop_ne t5f, drop_ne t5p]; exact h57
  refine for_go (F := drop f6 (drop p H7)) (it_list F5) (fun i σ H' => Same (drop f6 (drop p H7)) H' ∧ PotAt H' p (c + 50 + 6 * i) ∧ (∃ (ws : List V) (ls : List Lnk), H' f6 = some (.lst ws) ∧ LinksAt H' ws ls ∧ ls.map Lnk.ab = ps.take i ∧ ∀ l ∈ ls, 1 ≤ l.th ∧ 1 ≤ l.bk) ∧ ∃ q9 q10 q11, σ = [some (.ref p), some (.int 3), some (.int 6), some (.int 5), some (.int (3 + k1)), some (.ref t3), some (.ref t5), some (.ref f6), some (.bl (decide (j7 = 0))), q9, q10, q11]) ?_ (fun _ _ _ h => h.1) ?_ ?_ ?_
  · exact ⟨Fe, hp7.more (by omega), ⟨[], [], f67, .nil, by simp, fun q h => nomatch h⟩, _, _, _, rfl⟩
  · rintro i σ Ha Hb s ⟨g1, g2, ⟨us, ps, e1, e2, e3⟩, g4⟩
    exact ⟨g1.trans s, g2.same s, ⟨us, ps, s _ _ e1, e2.ts (tsS s), e3⟩, g4⟩
  · rintro i x σ H8 hi ⟨g1, g2, ⟨ws, ls, e1, e2, e3, e4⟩, q9, q10, q11, rfl⟩ hx
    obtain ⟨pr, epr, T8, rfl, hT8⟩ := paired_get pat7 hx
    have tT : T8 ≠ f6 := by rintro rfl; rw [f67] at hT8; cases hT8
    have tP : T8 ≠ p := by rintro rfl; obtain ⟨_, e⟩ := hp7.some; rw [e] at hT8; cases hT8
    have h8 := g1 _ _ (show drop f6 (drop p H7) T8 = _ by rw [drop_ne tT, drop_ne tP]; exact hT8)
    refine a_gtup h8 rfl ?_
    walk_at "aa"
    have hi2 : i < 16 := by omega
    refine ⟨p, _, rfl, g2, by omega, fun th H9 th1 b9 hp9 => ?_⟩
    walk_at "aa"
    refine ⟨ty_lst (b9 _ _ fp e1), ?_⟩
    walk_at "aa"
    have nf : drop f6 (drop p H7) f6 = none := drop_same
    have sub : ∀ {Hx : Hp}, But p H8 Hx → Same (drop f6 (drop p H7)) Hx := fun b u v e => by
      have := g1 _ _ e
      by_cases q : u = p
      · subst q; exfalso; rw [drop_ne fp.symm, drop_same] at e; cases e
      · exact b _ _ q this
    have put : ∀ (l : Lnk), l.ab = pr → 1 ≤ l.th → 1 ≤ l.bk → (ls ++ [l]).map Lnk.ab = ps.take (i + 1) ∧ ∀ k ∈ ls ++ [l], 1 ≤ k.th ∧ 1 ≤ k.bk := fun l h1 h2 h3 => by
      refine ⟨?_, fun k hk => ?_⟩
      · rw [List.map_append, e3, List.take_succ, epr, List.map_singleton, h1]; rfl
      · rcases List.mem_append.mp hk with hk | hk
        · exact e4 k hk
        · rw [List.mem_singleton.mp hk]; exact ⟨h2, h3⟩
    have lw : ws.length ≤ i := by
      have h1 := Paired.length e2
      have h2 := congrArg List.length e3
      rw [List.length_map, List.length_take] at h2
      omega
    refine iteD (fun c9 => ?_) (fun c9 => ?_)
    · walk_at "aa"
      refine ⟨by show 4 ≤ sizeLine; decide, fun T nT => ?_⟩
      obtain ⟨k1, k2, k3, k4, k5⟩ := grow ⟨pr.1, pr.2, th, th⟩ nT (sub b9) nf (b9 _ _ fp e1) hp9 fp (e2.ts (ts_but b9 g2))
      walk_at "aa"
      exact a_app k1 (by omega) ⟨k2, k3.more (by omega), ⟨_, _, k4, k5, put _ rfl th1 th1⟩, _, _, _, rfl⟩
    · walk_at "aa"
      refine ⟨p, _, rfl, hp9, by omega, fun bk H10 bk1 b10 hp10 => ?_⟩
      walk_at "aa"
      refine ⟨by show 4 ≤ sizeLine; decide, fun T nT => ?_⟩
      obtain ⟨k1, k2, k3, k4, k5⟩ := grow ⟨pr.1, pr.2, th, bk⟩ nT (sub (b9.trans b10)) nf (b10 _ _ fp (b9 _ _ fp e1)) hp10 fp ((e2.ts (ts_but b9 g2)).ts (ts_but b10 hp9))
      walk_at "aa"
      exact a_app k1 (by omega) ⟨k2, k3.more (by omega), ⟨_, _, k4, k5, put _ rfl th1 bk1⟩, _, _, _, rfl⟩
  · rintro σ H8 ⟨g1, g2, ⟨ws, ls, e1, e2, e3, e4⟩, q9, q10, q11, rfl⟩
    rw [List.take_of_length_le (by omega)] at e3
    have lw : ls.length = ps.length := by rw [← e3, List.length_map]
    walk_at "aa"
    refine a_srtT e1 e2 (by rw [e3]; exact pok.nd) (by omega) fun zs ms p9 H9 pm pw n9 s9 h9 hms => ?_
    walk_at "aa"
    refine a_tupL h9 fun pt H10 n10 s10 h10 => ?_
    walk_at "aa"
    refine ⟨by show 2 ≤ sizeLine; decide, fun t11 n11 => ?_⟩
    have s11 := same_new (o := .tup [.ref t3, .ref pt]) n11
    have sE := s9.trans (s10.trans s11)
    have ne (b : Addr) (xs : List V) (e : H7 b = some (.tup xs)) : H8 b = some (.tup xs) := g1 _ _ (by
      rw [drop_ne (by rintro rfl; rw [f67] at e; cases e), drop_ne (by rintro rfl; obtain ⟨_, e'⟩ := hp7.some; rw [e'] at e; cases e)]; exact e)
    refine q t11 _ R ms ⟨t3, pt, zs, upd_same, sE _ _ (ne _ _ h37), s11 _ _ h10, hms.ts (tsS (s10.trans s11))⟩ rok ⟨?_, fun l hl => ?_, pair_asc pw⟩ (fun b u e h => ?_) ((g2.same sE).more (by omega))
    · rw [pm.length_eq]; omega
    · have hl := pm.mem_iff.mp hl
      have hm : l.ab ∈ ps := by rw [← e3]; exact List.mem_map.mpr ⟨l, hl, rfl⟩
      obtain ⟨m1, m2, m3⟩ := pok.each _ hm
      exact ⟨m1, m2, m3, (e4 l hl).1, (e4 l hl).2⟩
    · have nf : b ≠ f6 := by rintro rfl; rw [b5 _ _ e (b4 _ _ e (s3 _ _ (b2 _ _ e (b1 _ _ e h))))] at n6; cases n6
      exact sE _ _ (g1 _ _ (by rw [drop_ne nf, drop_ne e]; exact b07 _ _ e h))
end QB
set_option Elab.async false
set_option linter.all false
set_option maxRecDepth 100000
set_option maxHeartbeats 4000000

set_option pp.deepTerms false
set_option pp.deepTerms.threshold 10
namespace QB
open PySem PySem.Spec L2
open PyProof.Rows (envOfC)
open PySem.PyData (strOk)
open RZ (Ty4 rIsTy call_isTy pi_zipA iZipA ItzT for_zipT for_zipL)
open StX (tStar pa_star)
open QS (SrtR tSrt rSrtI rSrtS rSrtT)
open QT (AllQ Ole Olt)
local macro_rules | `(tactic| walk_at "hp") => `(tactic| first | assumption | exact upd_same | (refine sg (by assumption) ?_; walk_at "hp"))
local macro_rules | `(tactic| walk_at "a") => `(tactic| first
  | with_reducible refine a_seq ?_ | with_reducible refine a_asg ?_ | with_reducible refine a_drop ?_ | with_reducible refine a_ret ?_ | with_reducible refine a_retN ?_
  | with_reducible refine a_ifS ?_ | with_reducible refine a_next ?_ | with_reducible refine a_gname ?_ | with_reducible refine a_nx ?_ | with_reducible refine a_rt ?_ | with_reducible refine a_bk ?_ | with_reducible refine a_ct ?_
  | ((with_reducible show tVar _ _ _ _); refine a_var rfl ?_) | with_reducible refine a_c ?_ | with_reducible refine a_op ?_ | with_reducible refine a_un ?_ | with_reducible refine a_cb ?_ | with_reducible refine a_nil ?_ | with_reducible refine a_cons ?_
  | with_reducible refine a_call ?_ | with_reducible refine a_meth ?_ | with_reducible refine a_make ?_ | with_reducible refine a_test ?_ | with_reducible refine a_tTest ?_ | with_reducible refine a_tand ?_ | with_reducible refine a_tor ?_ | with_reducible refine a_tnot ?_
  | with_reducible refine a_and ?_ | with_reducible refine a_or ?_ | with_reducible refine a_not ?_ | with_reducible refine a_if ?_ | with_reducible refine a_ri0 ?_ | with_reducible refine a_tup ?_ | with_reducible refine a_lst ?_
  | with_reducible refine a_bl ?_ | with_reducible refine a_sfld ?_ | with_reducible refine a_exI ?_ | with_reducible refine a_exZ ?_ | with_reducible refine a_chain ?_ | with_reducible refine a_lc ?_ | with_reducible refine a_yes ?_ | with_reducible refine a_gcons ?_ | with_reducible refine a_gnil ?_ | with_reducible refine w_list ?_ | with_reducible refine w_tup ?_ | with_reducible refine w_str ?_ | with_reducible refine w_rng1 ?_ | with_reducible refine w_zip ?_ | with_reducible refine w_zipA ?_
  | with_reducible refine a_tFld ?_ | with_reducible refine a_dget ?_ | with_reducible refine a_din ?_ | with_reducible refine a_dnin ?_ | with_reducible refine a_sl ?_ | with_reducible refine a_slNone ?_ | with_reducible refine a_slSome ?_
  | with_reducible refine a_isN ?_ | with_reducible refine a_notN ?_ | with_reducible refine a_eqI ?_ | with_reducible refine a_neI ?_ | with_reducible refine a_eqZ ?_ | with_reducible refine a_neZ ?_ | with_reducible refine a_ltZ ?_ | with_reducible refine a_int ?_ | with_reducible refine a_intB ?_ | with_reducible refine a_abs ?_ | with_reducible refine a_max2 ?_ | with_reducible refine a_min2 ?_ | with_reducible refine a_bm ?_
  | ((with_reducible show rLenQ _ _ _ _); first | refine a_lenT (by walk_at "hp") ?_ | refine a_lenL (by walk_at "hp") ?_)
  | with_reducible refine a_prsC ?_ | with_reducible refine a_prsN ?_ | with_reducible refine a_for ?_ | with_reducible refine a_dput ?_ | with_reducible refine w_keys ?_ | with_reducible refine w_listT ?_
  | with_reducible refine QB.a_rU ?_ | with_reducible refine QB.a_cKw ?_ | with_reducible refine QB.a_star ?_ | with_reducible refine QB.a_dget2 ?_
  | with_reducible refine QB.a_par ?_ | with_reducible refine QB.a_par3 ?_
  | with_reducible refine QB.a_srt ?_
  | with_reducible refine QB.a_dc ?_
  | with_reducible refine iteT ?_ | with_reducible refine iteNT ?_ | with_reducible refine iteNF ?_ | with_reducible refine iteF ?_ | with_reducible refine a_prop ?_)
local macro_rules | `(tactic| walk_at "aa") => `(tactic| (walk_at "a"; repeat walk_at "a"))

variable {P : Program} {w : World} {K : PySem.W.Frag} {mg : Str → Option Value} {base : Heap} {CN CC : Addr}
def lD (l : Lnk) : PyData := .tuple [.str l.a, .str l.b, .int l.th, .int l.bk]
theorem dp_links {K : PySem.W.Frag} {H : Hp} : ∀ {vs : List V} {ls : List Lnk}, LinksAt H vs ls → DpAll K H vs (ls.map lD)
  | _, _, .nil => .nil
  | _, _, .cons ⟨t, rfl, e⟩ r => .cons (.tup (SqT.of e) (.cons (.str _) (.cons (.str _) (.cons (.int _) (.cons (.int _) .nil))))) (dp_links r)
theorem lay_links : ∀ ls : List Lnk, (∀ l ∈ ls, strOk l.a = true ∧ strOk l.b = true) → PyData.canLayAll0 (ls.map lD) = true
  | [], _ => rfl
  | l :: ls, h => by
    show (PyData.canLay0 (lD l) && PyData.canLayAll0 (ls.map lD)) = true
    rw [lay_links ls fun y hy => h y (List.mem_cons_of_mem _ hy)]
    have h1 := h l List.mem_cons_self
    simp [lD, PyData.canLay0, PyData.canLayAll0, h1.1, h1.2]
theorem depth_links : ∀ ls : List Lnk, PyData.depthAll (ls.map lD) ≤ 1
  | [] => by simp [PyData.depthAll]
  | l :: ls => by
    have := depth_links ls
    simp [PyData.depthAll, PyData.depth, lD] at this ⊢
    omega
theorem shaped_links {ls : List Lnk} (h : ∀ l ∈ ls, strOk l.a = true ∧ strOk l.b = true) : SeqAt.shaped (.tuple (ls.map lD)) = true := by
  have := depth_links ls
  simp [SeqAt.shaped, PyData.canLay0, PyData.depth, lay_links ls h]
  omega
/-- links == () -/
theorem a_eqNilL {K : PySem.W.Frag} {H : Hp} {Q : VK} {a b : Addr} {vs : List V} {ls : List Lnk} (h : H a = some (.tup vs)) (hl : LinksAt H vs ls) (hb : H b = some (.tup [])) (o2 : ∀ l ∈ ls, strOk l.a = true ∧ strOk l.b = true) (q : Q (.bl (decide (ls = []))) H) : rEqD K (.ref a) (.ref b) H Q :=
  a_eqD (.tup (SqT.of h) (dp_links hl)) (.tup (SqT.of hb) .nil) (shaped_links o2) rfl (by
    have e : PyData.eqv (.tuple (ls.map lD)) (.tuple []) = decide (ls = []) := by cases ls <;> rfl
    rw [e]; exact q)
theorem at_z0 {α : Type} {v : α} {r : List α} : atI (v :: r) 0 = some v := at_zero v r
theorem at_z1 {α : Type} {u v : α} {r : List α} : atI (u :: v :: r) 1 = some v := by
  unfold atI ixN
  rw [if_pos (by decide), if_pos (by simp; omega)]
  rfl
theorem paired_mem {α β : Type} {F : α → β → Prop} : ∀ {xs : List α} {ys : List β} {x : α}, Paired F xs ys → x ∈ xs → ∃ y ∈ ys, F x y
  | _, _, _, .cons r t, h => by
    rcases List.mem_cons.mp h with rfl | h
    · exact ⟨_, List.mem_cons_self, r⟩
    · obtain ⟨y, hy, q⟩ := paired_mem t h
      exact ⟨y, List.mem_cons_of_mem _ hy, q⟩
theorem WorldAt.but {H H' : Hp} {p a : Addr} {c : Nat} {R : List Str} {ls : List Lnk} (b : But p H H') (hp : PotAt H p c) (h : WorldAt H a R ls) : WorldAt H' a R ls := h.ts (ts_but b hp)
def spLawLink : Sp := fun vs H Q _ => ∃ (p : Addr) (c : Nat), vs = [.ref p, .int 3, .int 6, .int 5] ∧ PotAt H p c ∧ c ≤ 500000 ∧ ∀ (t n : Addr) (H' : Hp) (R : List Str) (ls : List Lnk) (l : Lnk), H' t = some (.tup [.ref n, .str l.a, .str l.b]) → WorldAt H' n R ls → RoutersOk R → LinksOk R ls → l ∈ ls → But p H H' → PotAt H' p (c + 300) → Q (.ref t) H'
abbrev N__law_link_of : List Str := ["_law_pot_here", "_law_least", "_law_most", "_law_more", "_law_world_here", "_law_link"]
theorem sc__law_link_of : FnScope N__law_link_of ["_law_pot_here", "_law_least", "_law_most", "_law_more"] (defScope QH.s__law_link_of) := ⟨rfl, rfl, rfl, by decide +kernel, rfl, by decide +kernel, by decide +kernel⟩
theorem D_law_link_of (T : Tx P w K mg base CN CC) (F : FunAt K mg "_law_link_of" QH.s__law_link_of) (D_law_world : DefOk P w K mg base "_law_world" ["_law_pot_here", "_law_least", "_law_most", "_law_more"] spWorld 4) (D_law_with : DefOk P w K mg base "_law_with" ["_law_world_here", "_law_a", "_law_b", "_law_there", "_law_back"] spWith 1) (D_law_far : DefOk P w K mg base "_law_far" ["_law_pot_here"] spFar 3) (D_law_of : DefOk P w K mg base "_law_of" ["_law_pot_here", "_law_some"] spOf 2) : DefOk P w K mg base "_law_link_of" ["_law_pot_here", "_law_least", "_law_most", "_law_more"] spLawLink 5 := by
  refine mk_def F sc__law_link_of (fun _ _ _ _ _ _ us hl => match us, hl with | [_, _, _, _], _ => rfl) (fun vs H Q E h => by obtain ⟨p, c, rfl, _⟩ := h; rfl) (fun f cdv A outer s0 H vs Q E hr h => ?_)
  have nd := sc__law_link_of.nd
  obtain ⟨p, c, rfl, hp, hc, q⟩ := h
  refine ⟨_, (pss_cons (ps_set (i := 4) nd rfl (by first | exact Or.inl rfl | exact Or.inr rfl) (pe_callD D_law_world (hr.mono (by decide)) (by rfl) (pa_cons (pv 0) (pa_cons (pv 1) (pa_cons (pv 2) (pa_cons (pv 3) pa_nil))))))
    (pss_cons (ps_if (pt_cmpR (ki_eqD (K := K) hr.units) (pe_ix (ki_ixT (K := K)) (pv 4) pe_int (fun _ _ => rfl)) (pe_tup pa_nil) (nomark _)) (pss_one (ps_set (i := 4) nd rfl (by first | exact Or.inl rfl | exact Or.inr rfl) (pe_callD D_law_with (hr.mono (by decide)) (by rfl) (pa_cons (pv 4) (pa_cons (pe_ix (ki_ixT (K := K)) (pe_ix (ki_ixT (K := K)) (pv 4) pe_int (fun _ _ => rfl)) pe_int (fun _ _ => rfl)) (pa_cons (pe_ix (ki_ixT (K := K)) (pe_ix (ki_ixT (K := K)) (pv 4) pe_int (fun _ _ => rfl)) pe_int (fun _ _ => rfl)) (pa_cons (pe_callD D_law_far (hr.mono (by decide)) (by rfl) (pa_cons (pv 0) pa_nil)) (pa_cons (pe_callD D_law_far (hr.mono (by decide)) (by rfl) (pa_cons (pv 0) pa_nil)) pa_nil)))))))) pss_nil)
    (pss_cons (ps_set (i := 5) nd rfl (by first | exact Or.inl rfl | exact Or.inr rfl) (pe_callD D_law_of (hr.mono (by decide)) (by rfl) (pa_cons (pv 0) (pa_cons (pe_ix (ki_ixT (K := K)) (pv 4) pe_int (fun _ _ => rfl)) pa_nil))))
    (pss_one (ps_ret (pe_tup (pa_cons (pv 4) (pa_cons (pe_ix (ki_ixT (K := K)) (pv 5) pe_int (fun _ _ => rfl)) (pa_cons (pe_ix (ki_ixT (K := K)) (pv 5) pe_int (fun _ _ => rfl)) pa_nil))))))))), ?_⟩
  have rest : ∀ (n : Addr) (H2 : Hp) (R : List Str) (ls : List Lnk) (c2 : Nat), c2 ≤ c + 250 → WorldAt H2 n R ls → RoutersOk R → LinksOk R ls → ls ≠ [] → But p H H2 → PotAt H2 p c2 → ∀ (x5 : Option V) , 
    tSeq (tAsg (tCall spOf [] E0 (tCons (tVar 0) (tCons (tOp (rIxT K) (tVar 4) (tC (.int 1))) tNil))) (gName 5)) (tRet (tTup (tCons (tVar 4) (tCons (tOp (rIxT K) (tVar 5) (tC (.int 0))) (tCons (tOp (rIxT K) (tVar 5) (tC (.int 1))) tNil))))) { nx := fun _ H' => Q .non H', rt := Q } [some (.ref p), some (.int 3), some (.int 6), some (.int 5), some (.ref n), x5] H2 := by
    intro n H2 R ls c2 hc2 hw ok1 ok2 ne b2 hp2 x5
    obtain ⟨r, la, vs, h1, h2, h3, h4⟩ := hw
    walk_at "aa"
    refine a_ixT h1 rfl ?_
    walk_at "aa"
    have ll := Paired.length h4
    have lm := ok2.most
    refine ⟨p, c2, hp2, by omega, .inr (.inl ⟨la, vs, rfl, h3, ?_, by omega, fun v H3 hv b3 hp3 => ?_⟩)⟩
    · rintro rfl
      cases ls with
      | nil => exact ne rfl
      | cons a l => simp at ll
    obtain ⟨l, hl, tl, rfl, htl⟩ := paired_mem h4 hv
    have htl3 := b3.tup hp2 htl
    walk_at "aa"
    refine a_ixT htl3 rfl ?_
    walk_at "aa"
    refine a_ixT htl3 rfl ?_
    walk_at "aa"
    refine ⟨by show 3 ≤ sizeLine; decide, fun t4 n4 => ?_⟩
    have s4 := same_new (o := .tup [.ref n, .str l.a, .str l.b]) n4
    have hw3 : WorldAt H3 n R ls := WorldAt.but b3 hp2 ⟨r, la, vs, h1, h2, h3, h4⟩
    exact q t4 n _ R ls l upd_same (hw3.ts (tsS s4)) ok1 ok2 hl (fun b o e h => s4 _ _ (b3 _ _ e (b2 _ _ e h))) ((hp3.same s4).more (by omega))
  walk_at "aa"
  refine ⟨p, c, rfl, hp, by omega, fun n H1 R ls hw ok1 ok2 b1 hp1 => ?_⟩
  walk_at "aa"
  obtain ⟨r, la, vs, h1, h2, h3, h4⟩ := hw
  refine a_ixT h1 rfl ?_
  walk_at "aa"
  refine ⟨Nat.zero_le _, fun t2 n2 => ?_⟩
  have s2 := same_new (o := .tup []) n2
  refine a_eqNilL (s2 _ _ h3) (h4.ts (tsS s2)) upd_same (fun l hl => ⟨((ok2.each l hl).na ok1).ok, ((ok2.each l hl).nb ok1).ok⟩) ?_
  have hw2 : WorldAt (upd H1 t2 (.tup [])) n R ls := (show WorldAt H1 n R ls from ⟨r, la, vs, h1, h2, h3, h4⟩).ts (tsS s2)
  have b2 := b1.same s2
  have hp2 := hp1.same s2
  have h12 := s2 _ _ h1
  have h22 := s2 _ _ h2
  generalize upd H1 t2 (.tup []) = H2 at *
  walk_at "aa"
  refine iteD (fun c9 => ?_) (fun c9 => ?_)
  · subst c9
    walk_at "aa"
    obtain ⟨ra, rb, R', rfl⟩ : ∃ ra rb R', R = ra :: rb :: R' := by
      have := ok1.two
      match R, this with
      | a :: b :: R', _ => exact ⟨a, b, R', rfl⟩
    refine a_ixT h12 rfl ?_
    walk_at "aa"
    refine a_ixT h22 at_z0 ?_
    walk_at "aa"
    refine a_ixT h12 rfl ?_
    walk_at "aa"
    refine a_ixT h22 at_z1 ?_
    walk_at "aa"
    refine ⟨p, _, rfl, hp2, by omega, fun th H3 th1 b3 hp3 => ?_⟩
    walk_at "aa"
    refine ⟨p, _, rfl, hp3, by omega, fun bk H4 bk1 b4 hp4 => ?_⟩
    walk_at "aa"
    refine ⟨n, _, [], ⟨ra, rb, th, bk⟩, rfl, (hw2.but b3 hp2).but b4 hp3, ok1, ok2, ⟨by simp, by simp, ok1.asc 0 _ _ rfl rfl, th1, bk1⟩, by simp [less], fun n5 H5 ms s5 hw5 om ne => ?_⟩
    exact rest n5 H5 _ ms (c + 206) (by omega) hw5 ok1 om ne (fun b o e h => s5 _ _ (b4 _ _ e (b3 _ _ e (b2 _ _ e h)))) ((hp4.same s5).more (by omega)) _
  · exact rest n H2 _ ls (c + 200) (by omega) hw2 ok1 ok2 c9 b2 hp2 _
end QB
set_option Elab.async false
set_option linter.all false
set_option maxRecDepth 100000
set_option maxHeartbeats 4000000

set_option pp.deepTerms false
set_option pp.deepTerms.threshold 10
namespace QB
open PySem PySem.Spec L2
open PyProof.Rows (envOfC)
open PySem.PyData (strOk)
open RZ (Ty4 rIsTy call_isTy pi_zipA iZipA ItzT for_zipT for_zipL)
open StX (tStar pa_star)
open QS (SrtR tSrt rSrtI rSrtS rSrtT)
open QT (AllQ Ole Olt)
local macro_rules | `(tactic| walk_at "hp") => `(tactic| first | assumption | exact upd_same | (refine sg (by assumption) ?_; walk_at "hp"))
local macro_rules | `(tactic| walk_at "a") => `(tactic| first
  | with_reducible refine a_seq ?_ | with_reducible refine a_asg ?_ | with_reducible refine a_drop ?_ | with_reducible refine a_ret ?_ | with_reducible refine a_retN ?_
  | with_reducible refine a_ifS ?_ | with_reducible refine a_next ?_ | with_reducible refine a_gname ?_ | with_reducible refine a_nx ?_ | with_reducible refine a_rt ?_ | with_reducible refine a_bk ?_ | with_reducible refine a_ct ?_
  | ((with_reducible show tVar _ _ _ _); refine a_var rfl ?_) | with_reducible refine a_c ?_ | with_reducible refine a_op ?_ | with_reducible refine a_un ?_ | with_reducible refine a_cb ?_ | with_reducible refine a_nil ?_ | with_reducible refine a_cons ?_
  | with_reducible refine a_call ?_ | with_reducible refine a_meth ?_ | with_reducible refine a_make ?_ | with_reducible refine a_test ?_ | with_reducible refine a_tTest ?_ | with_reducible refine a_tand ?_ | with_reducible refine a_tor ?_ | with_reducible refine a_tnot ?_
  | with_reducible refine a_and ?_ | with_reducible refine a_or ?_ | with_reducible refine a_not ?_ | with_reducible refine a_if ?_ | with_reducible refine a_ri0 ?_ | with_reducible refine a_tup ?_ | with_reducible refine a_lst ?_
  | with_reducible refine a_bl ?_ | with_reducible refine a_sfld ?_ | with_reducible refine a_exI ?_ | with_reducible refine a_exZ ?_ | with_reducible refine a_chain ?_ | with_reducible refine a_lc ?_ | with_reducible refine a_yes ?_ | with_reducible refine a_gcons ?_ | with_reducible refine a_gnil ?_ | with_reducible refine w_list ?_ | with_reducible refine w_tup ?_ | with_reducible refine w_str ?_ | with_reducible refine w_rng1 ?_ | with_reducible refine w_zip ?_ | with_reducible refine w_zipA ?_
  | with_reducible refine a_tFld ?_ | with_reducible refine a_dget ?_ | with_reducible refine a_din ?_ | with_reducible refine a_dnin ?_ | with_reducible refine a_sl ?_ | with_reducible refine a_slNone ?_ | with_reducible refine a_slSome ?_
  | with_reducible refine a_isN ?_ | with_reducible refine a_notN ?_ | with_reducible refine a_eqI ?_ | with_reducible refine a_neI ?_ | with_reducible refine a_eqZ ?_ | with_reducible refine a_neZ ?_ | with_reducible refine a_ltZ ?_ | with_reducible refine a_int ?_ | with_reducible refine a_intB ?_ | with_reducible refine a_abs ?_ | with_reducible refine a_max2 ?_ | with_reducible refine a_min2 ?_ | with_reducible refine a_bm ?_
  | ((with_reducible show rLenQ _ _ _ _); first | refine a_lenT (by walk_at "hp") ?_ | refine a_lenL (by walk_at "hp") ?_)
  | with_reducible refine a_prsC ?_ | with_reducible refine a_prsN ?_ | with_reducible refine a_for ?_ | with_reducible refine a_dput ?_ | with_reducible refine w_keys ?_ | with_reducible refine w_listT ?_
  | with_reducible refine QB.a_rU ?_ | with_reducible refine QB.a_cKw ?_ | with_reducible refine QB.a_star ?_ | with_reducible refine QB.a_dget2 ?_
  | with_reducible refine QB.a_par ?_ | with_reducible refine QB.a_par3 ?_
  | with_reducible refine QB.a_srt ?_
  | with_reducible refine QB.a_dc ?_
  | with_reducible refine iteT ?_ | with_reducible refine iteNT ?_ | with_reducible refine iteNF ?_ | with_reducible refine iteF ?_ | with_reducible refine a_prop ?_)
local macro_rules | `(tactic| walk_at "aa") => `(tactic| (walk_at "a"; repeat walk_at "a"))

variable {P : Program} {w : World} {K : PySem.W.Frag} {mg : Str → Option Value} {base : Heap} {CN CC : Addr}
theorem dt_setNew {H : Hp} {p t : Addr} {a b : Str} {v : V} {kvs : List (List Key × V)} {S : Hp → Prop} (h : H p = some (.dT kvs)) (ht : H t = some (.tup [.str a, .str b])) (n : valV kvs (pk a b) = none) (hl : kvs.length < 1000) (q : S (upd H p (.dT (kvs ++ [(pk a b, v)])))) : rSetD (.ref p) (.ref t) v H S := dt_putNew (k := fun _ => S) (σ := []) h ht n hl q
theorem dk_set {H : Hp} {p : Addr} {R : List Str} {f : Str → Option V} {z : Str} {v : V} {S : Hp → Prop} (h : DK H p R f) (hz : z ∈ R) (hR : R.length ≤ 1000) (q : ∀ kvs, DK (upd H p (.dK kvs)) p R (fun j => if j = z then some v else f j) → S (upd H p (.dK kvs))) : rSetD (.ref p) (.str z) v H S := dk_put (k := fun _ => S) (σ := []) h hz hR q
def spLens : Sp := fun vs H Q _ => ∃ (la : Addr) (us : List V) (R : List Str) (ls : List Lnk), vs = [.ref la] ∧ H la = some (.tup us) ∧ LinksAt H us ls ∧ LinksOk R ls ∧ ∀ (p : Addr) (H' : Hp), Same H H' → LenAt H' p ls → Q (.ref p) H'
abbrev N__law_lengths : List Str := ["_law_links", "_law_found", "_law_a", "_law_b", "_law_there", "_law_back"]
theorem sc__law_lengths : FnScope N__law_lengths ["_law_links"] (defScope QH.s__law_lengths) := ⟨rfl, rfl, rfl, by decide +kernel, rfl, by decide +kernel, by decide +kernel⟩
theorem D_law_lengths (T : Tx P w K mg base CN CC) (F : FunAt K mg "_law_lengths" QH.s__law_lengths) : DefOk P w K mg base "_law_lengths" ["_law_links"] spLens 1 := by
  refine mk_def F sc__law_lengths (fun _ _ _ _ _ _ us hl => match us, hl with | [_], _ => rfl) (fun vs H Q E h => by obtain ⟨la, us, R, ls, rfl, _⟩ := h; rfl) (fun f cdv A outer s0 H vs Q E hr h => ?_)
  have nd := sc__law_lengths.nd
  obtain ⟨la, us, R, ls, rfl, hla, hls, ok, k⟩ := h
  have h16 := ok.most
  refine ⟨_, (pss_cons (ps_set (i := 1) nd rfl (by first | exact Or.inl rfl | exact Or.inr rfl) pe_dnewT)
    (pss_cons (ps_for PassesOwn.never rfl (ki_ptup (K := K) (pv 0)) (ki_gtup (K := K) rfl (pgs_cons (pg_name (i := 2) nd rfl (by first | exact Or.inl rfl | exact Or.inr rfl)) (pgs_cons (pg_name (i := 3) nd rfl (by first | exact Or.inl rfl | exact Or.inr rfl)) (pgs_cons (pg_name (i := 4) nd rfl (by first | exact Or.inl rfl | exact Or.inr rfl)) (pgs_cons (pg_name (i := 5) nd rfl (by first | exact Or.inl rfl | exact Or.inr rfl)) pgs_nil))))) (pss_one (ps_asg (pe_tup (pa_cons (pv 4) (pa_cons (pv 5) pa_nil))) (ki_gtup (K := K) rfl (pgs_cons (pg_sub (pv 1) (pe_tup (pa_cons (pv 2) (pa_cons (pv 3) pa_nil))) (set_dict (hu_of hr))) (pgs_cons (pg_sub (pv 1) (pe_tup (pa_cons (pv 3) (pa_cons (pv 2) pa_nil))) (set_dict (hu_of hr))) pgs_nil))))))
    (pss_one (ps_ret (pv 1))))), ?_⟩
  walk_at "aa"
  refine a_newT fun p H1 np s1 h1 => ?_
  walk_at "aa"
  refine ⟨la, rfl, ⟨_, SqT.of (s1 _ _ hla)⟩, ?_⟩
  have hlen := hls.length
  have hls1 := hls.ts (tsS s1)
  have dr : ∀ a xs, H1 a = some (.tup xs) → drop p H1 a = some (.tup xs) := fun a xs e => by rw [drop_ne (by rintro rfl; rw [h1] at e; cases e)]; exact e
  have sd : Same H (drop p H1) := fun b o e => by rw [drop_ne (ne_of_none e np)]; exact s1 _ _ e
  refine for_go (it_tup (dr _ _ (s1 _ _ hla))) (fun i σ H' => (Same (drop p H1) H' ∧ H' p = some (.dT (lenV (ls.take i)))) ∧ ∃ q2 q3 q4 q5, σ = [some (.ref la), some (.ref p), q2, q3, q4, q5]) ⟨⟨drop_le, h1⟩, _, _, _, _, rfl⟩ (fun _ _ _ h => h.1.1) (fun _ _ _ _ s h => ⟨⟨h.1.1.trans s, s _ _ h.1.2⟩, h.2⟩) ?_ ?_
  · rintro i x σ H2 hi ⟨⟨sF, hp⟩, q2, q3, q4, q5, rfl⟩ hx
    obtain ⟨l, e1, a, rfl, ha⟩ := paired_get hls1 hx
    obtain ⟨z1, z2, z3⟩ := lens_new ok e1
    have hi' : i < ls.length := by omega
    refine a_gtup (sF _ _ (dr _ _ ha)) rfl ?_
    walk_at "aa"
    refine ⟨by show 2 ≤ sizeLine; decide, fun t0 n0 => ?_⟩
    have s0' := same_new (o := .tup [.int l.th, .int l.bk]) n0
    refine a_gtup upd_same rfl ?_
    have hp0 := s0' _ _ hp
    have sF0 := sF.trans s0'
    generalize upd H2 t0 (.tup [.int l.th, .int l.bk]) = H3 at *
    refine a_gcons ?_
    refine a_gsub ?_
    walk_at "aa"
    refine ⟨by show 2 ≤ sizeLine; decide, fun t1 n1 => ?_⟩
    have s3 := same_new (o := .tup [.str l.a, .str l.b]) n1
    refine dt_setNew (s3 _ _ hp0) upd_same (by rw [val_lenV, z1]; rfl) (by rw [length_lenV, List.length_take]; omega) ?_
    have s4 : Same (drop p H1) (upd (upd H3 t1 (.tup [.str l.a, .str l.b])) p (.dT (lenV (ls.take i) ++ [(pk l.a l.b, .int l.th)]))) := same_mut (sF0.trans s3) drop_same
    refine a_gcons ?_
    refine a_gsub ?_
    walk_at "aa"
    refine ⟨by show 2 ≤ sizeLine; decide, fun t5 n5 => ?_⟩
    have s5 := same_new (o := .tup [.str l.b, .str l.a]) n5
    refine dt_setNew (s5 _ _ upd_same) upd_same ?_ (by rw [List.length_append, length_lenV, List.length_take]; simp; omega) ?_
    · refine (valV_snoc (κ := List Key) (pk l.a l.b) (pk l.b l.a) (.int l.th) (lenV (ls.take i)) (by rw [val_lenV, z1]; rfl)).trans ?_
      rw [if_neg (fun q => z3 (pk_inj.mp q).1.symm), val_lenV, z2]
      rfl
    refine a_gnil ?_
    refine ⟨⟨same_mut (s4.trans s5) drop_same, ?_⟩, _, _, _, _, rfl⟩
    rw [upd_same, List.take_succ, e1]
    show some (HO.dT _) = some (HO.dT (lenV (ls.take i ++ [l])))
    rw [lenV_snoc]
  · rintro σ H2 ⟨⟨sF, hp⟩, q2, q3, q4, q5, rfl⟩
    rw [List.take_of_length_le (by omega)] at hp
    walk_at "aa"
    exact k p H2 (sd.trans sF) hp
theorem get_int {o : Option Int} : (o.map V.int).getD (.int 0) = V.int (o.getD 0) := by cases o <;> rfl
def spFarFrom : Sp := fun vs H Q _ => ∃ (r m : Addr) (R : List Str) (ls : List Lnk) (d : Str), vs = [.ref r, .ref m, .str d] ∧ LenAt H m ls ∧ RoutersOk R ∧ LinksOk R ls ∧ d ∈ R ∧ ∀ (p : Addr) (H' : Hp) (f : Str → Option Int), H p = none → Same H H' → DisAt H' p R f → Q (.ref p) H'
abbrev N__law_far_from : List Str := ["_law_routers", "_law_lengths_here", "_law_d", "_law_found", "_law_is_done", "_law_a", "_law_b", "_law_far_here"]
theorem sc__law_far_from : FnScope N__law_far_from ["_law_routers", "_law_lengths_here", "_law_d"] (defScope QH.s__law_far_from) := ⟨rfl, rfl, rfl, by decide +kernel, rfl, by decide +kernel, by decide +kernel⟩
theorem D_law_far_from (T : Tx P w K mg base CN CC) (F : FunAt K mg "_law_far_from" QH.s__law_far_from) : DefOk P w K mg base "_law_far_from" ["_law_routers", "_law_lengths_here", "_law_d"] spFarFrom 1 := by
  refine mk_def F sc__law_far_from (fun _ _ _ _ _ _ us hl => match us, hl with | [_, _, _], _ => rfl) (fun vs H Q E h => by obtain ⟨r, m, R, ls, d, rfl, _⟩ := h; rfl) (fun f cdv A outer s0 H vs Q E hr h => ?_)
  have nd := sc__law_far_from.nd
  obtain ⟨r, m, R, ls, d, rfl, hm, ok1, ok2, hd, k⟩ := h
  have h8 := ok1.most
  refine ⟨_, (pss_cons (ps_par (i := 3) (j := 4) (by rfl) nd rfl rfl (by decide) rfl rfl (pa_cons (pe_disp (pps_cons (pv 2) pe_int pps_nil) (by rfl) (by rfl) (fun z => by cases z) (by decide)) (pa_cons pe_bl pa_nil)) (by rfl))
    (pss_cons (ps_while PassesOwn.never (pt_not (pt_val (pv 4))) (pss_cons (ps_set (i := 4) nd rfl (by first | exact Or.inl rfl | exact Or.inr rfl) pe_bl)
    (pss_one (ps_lock (ps_for PassesOwn.never rfl (pi_listT rfl (pv 1) (by rfl) T.f_list (by decide +kernel) (by decide) (by decide) (by rfl)) (ki_gtup (K := K) rfl (pgs_cons (pg_name (i := 5) nd rfl (by first | exact Or.inl rfl | exact Or.inr rfl)) (pgs_cons (pg_name (i := 6) nd rfl (by first | exact Or.inl rfl | exact Or.inr rfl)) pgs_nil))) (pss_cons (ps_set (i := 7) nd rfl (by first | exact Or.inl rfl | exact Or.inr rfl) (pe_op op_add (pe_dget (hu_of hr) (pv 1) (pe_tup (pa_cons (pv 5) (pa_cons (pv 6) pa_nil))) (fun _ _ => rfl)) (pe_dget2 (hu_of hr) (pv 3) (pv 6) pe_int ⟨by rfl, by rfl, by rfl, by rfl⟩)))
    (pss_one (ps_if (PW.pt (pw_and (pt_cmp (pc_din (hu_of hr) (pv 6) (pv 3))) (pw_and1 (PW.pt (pw_or (pt_cmp (pc_dnotin (hu_of hr) (pv 5) (pv 3))) (pw_or1 (pt_cmpR op_lt (pv 7) (pe_dget (hu_of hr) (pv 3) (pv 5) (fun _ _ => rfl)) (nomark _)))))))) (pss_one (ps_asg (pe_tup (pa_cons (pv 7) (pa_cons pe_bl pa_nil))) (ki_gtup (K := K) rfl (pgs_cons (pg_sub (pv 3) (pv 5) (set_dict (hu_of hr))) (pgs_cons (pg_name (i := 4) nd rfl (by first | exact Or.inl rfl | exact Or.inr rfl)) pgs_nil))))) pss_nil))))))))
    (pss_one (ps_ret (pv 3))))), ?_⟩
  walk_at "aa"
  refine a_disp fun p H0 np s0' h0 => ?_
  walk_at "aa"
  refine ⟨h0, [(.inr d, .int 0)], rfl, by show 1 ≤ 15; decide, ?_⟩
  have s1 : Same H (upd H0 p (.dK (mergeK [] [(.inr d, .int 0)]))) := same_mut s0' np
  have h1 : DisAt (upd H0 p (.dK (mergeK [] [(.inr d, .int 0)]))) p R fun z => if z = d then some 0 else none := by
    refine ⟨_, upd_same, fun z => ?_, by simp [mergeK, putK], fun k hk => ?_⟩
    · show valV _ _ = (if z = d then some (0 : Int) else none).map V.int
      by_cases c : z = d
      · subst c; rw [if_pos rfl]; exact valV_pos rfl
      · rw [if_neg c]; exact valV_neg fun e => c (by injection e with e; exact e.symm)
    · have : k = .inr d := by simpa [mergeK, putK] using hk
      rw [this]; exact mem_domS.mpr hd
  generalize upd H0 p (.dK (mergeK [] [(.inr d, .int 0)])) = H1 at *
  walk_at "aa"
  refine ⟨_, _, rfl, ?_⟩
  have hE := arcs_pos ok2
  have pm : m ≠ p := by rintro rfl; rw [show H m = _ from hm] at np; cases np
  let Pv : Nat → L2.St → Hp → Prop := fun mm σ H' => Same H H' ∧ ∃ (f : Str → Option Int) (i : Nat) (dn : Bool), DisAt H' p R f ∧ QT.BF (arcs ls) d R i [] f ∧ (dn = false → mm = R.length + 1 - i ∧ i ≤ R.length) ∧ (dn = true → mm = 0) ∧ ∃ q5 q6 q7, σ = [some (.ref r), some (.ref m), some (.str d), some (.ref p), some (.bl dn), q5, q6, q7]
  walk_at "aa"
  refine while_go Pv (R.length + 1) ⟨s1, _, 0, false, h1, QT.BF.start hE hd, fun _ => ⟨rfl, Nat.zero_le _⟩, fun h => (nomatch h), _, _, _, rfl⟩ ?_
  rintro mm σ H2 ⟨sF, f, i, dn, hp, bf, m1, m2, q5, q6, q7, rfl⟩
  walk_at "aa"
  cases dn with
  | true =>
    refine iteNT ?_
    walk_at "aa"
    exact k p H2 f np sF hp
  | false =>
    obtain ⟨m1, mi⟩ := m1 rfl
    refine iteNF ?_
    refine w_fell ?_
    walk_at "aa"
    refine a_lock (sF _ _ hm) trivial fun od => ?_
    have sL := same_lock (x := .frz od (.dT (lenV ls))) sF hm
    walk_at "aa"
    refine ⟨m, od, _, rfl, upd_same, ?_⟩
    refine for_go (F := upd H m (.frz od (.dT (lenV ls)))) (it_keysT upd_same) (fun j σ H' => (Same (upd H m (.frz od (.dT (lenV ls)))) H' ∧ ∃ (f : Str → Option Int) (dn : Bool), DisAt H' p R f ∧ QT.BF (arcs ls) d R i ((lensOf ls).take j) f ∧ (dn = false → i < R.length) ∧ ∃ q5 q6 q7, σ = [some (.ref r), some (.ref m), some (.str d), some (.ref p), some (.bl dn), q5, q6, q7])) ⟨sL, f, true, DK.stay (upd_ne (Ne.symm pm)) hp, bf, fun h => (nomatch h), _, _, _, rfl⟩ (fun _ _ _ h => h.1) (fun _ _ _ _ s h => ⟨h.1.trans s, by obtain ⟨f, dn, q1, q2⟩ := h.2; exact ⟨f, dn, q1.same s, q2⟩⟩) ?_ ?_
    · rintro j x σ H3 hj ⟨sF3, f, dn, hp, bf, hdn, q5, q6, q7, rfl⟩ ⟨kk, vv, t, e1, rfl, ht⟩
      unfold lenV at e1
      rw [List.getElem?_map] at e1
      obtain ⟨⟨⟨a, b⟩, l⟩, e2, e3⟩ := Option.map_eq_some_iff.mp e1
      cases e3
      have ea : arcs ls a b = some l := mem_lookup ok2.lnd (List.mem_of_getElem? e2)
      have tk : (lensOf ls).take (j + 1) = (lensOf ls).take j ++ [((a, b), l)] := by rw [List.take_succ, e2]; rfl
      have ht : H3 t = some (.tup [.str a, .str b]) := ht
      refine a_gtup ht rfl ?_
      walk_at "aa"
      refine ⟨by show 2 ≤ sizeLine; decide, fun t4 n4 => ?_⟩
      have s4 := same_new (o := .tup [.str a, .str b]) n4
      have sF4 := sF3.trans s4
      have hm4 : Rd (upd H3 t4 (.tup [.str a, .str b])) m (.dT (lenV ls)) := .inr ⟨od, sF4 _ _ upd_same⟩
      refine ⟨m, _, rfl, len_ds hm4 upd_same ea, ?_⟩
      have hp := hp.same s4
      generalize upd H3 t4 (.tup [.str a, .str b]) = H4 at *
      walk_at "aa"
      refine ⟨p, rfl, .inl (by obtain ⟨kvs, e, _⟩ := hp; exact ⟨kvs, .inl e⟩), ?_⟩
      walk_at "aa"
      refine ⟨_, dis_dg hp, ?_⟩
      rw [get_int]
      walk_at "aa"
      refine ⟨p, _, rfl, dis_dg hp, ?_⟩
      refine a_bl ?_
      cases hb : f b with
      | none =>
        refine iteF ?_
        refine iteF ?_
        walk_at "aa"
        refine ⟨sF4, f, dn, hp, ?_, hdn, _, _, _, rfl⟩
        rw [tk]
        exact bf.skip fun p' hp' => by rw [hb] at hp'; cases hp'
      | some pb =>
        refine iteT ?_
        walk_at "aa"
        refine ⟨p, _, rfl, dis_dg hp, ?_⟩
        refine a_bl ?_
        have hab := arcs_in ok2 ea
        have stay : (∃ q, f a = some q ∧ q ≤ l + pb) → QT.BF (arcs ls) d R i ((lensOf ls).take (j + 1)) f := fun h => by
          rw [tk]
          exact bf.skip fun p' hp' => by rw [hb] at hp'; cases hp'; exact h
        have fell : (∀ q, f a = some q → l + pb < q) → i < R.length ∧ ∀ kvs H5, Same H4 H5 → (DK (upd H5 p (.dK kvs)) p R fun z => if z = a then some (.int (l + pb)) else (f z).map V.int) →
            Same (upd H m (.frz od (.dT (lenV ls)))) (upd H5 p (.dK kvs)) ∧ ∃ f', DisAt (upd H5 p (.dK kvs)) p R f' ∧ QT.BF (arcs ls) d R i ((lensOf ls).take (j + 1)) f' := fun hx => by
          refine ⟨?_, fun kvs H5 s5 hk => ⟨same_mut (sF4.trans s5) (by rw [upd_ne (Ne.symm pm)]; exact np), QT.put f a (l + pb), DK.congr hk fun z => ?_, ?_⟩⟩
          · by_cases c : R.length ≤ i
            · obtain ⟨q, h1, h2⟩ := bf.still c ea hb
              have := hx q h1
              omega
            · omega
          · show _ = (if z = a then some (l + pb) else f z).map V.int
            by_cases c : z = a
            · rw [if_pos c, if_pos c]; rfl
            · rw [if_neg c, if_neg c]
          · rw [tk]
            exact bf.put ea hb hx
        have fin : ∀ (hx : ∀ q, f a = some q → l + pb < q), True := fun _ => trivial
        cases ha : f a with
        | none =>
          obtain ⟨fi, fell⟩ := fell fun q hq => by rw [ha] at hq; cases hq
          refine iteNF ?_
          refine iteT ?_
          walk_at "aa"
          refine ⟨by show 2 ≤ sizeLine; decide, fun t5 n5 => ?_⟩
          have s5 := same_new (o := .tup [.int (l + pb), .bl false]) n5
          refine a_gtup upd_same rfl ?_
          refine a_gcons ?_
          refine a_gsub ?_
          walk_at "aa"
          refine dk_set (hp.same s5) hab.1 (by omega) fun kvs hk => ?_
          obtain ⟨y1, f', y2, y3⟩ := fell kvs _ s5 hk
          walk_at "aa"
          exact ⟨y1, f', false, y2, y3, fun _ => fi, _, _, _, rfl⟩
        | some pa =>
          refine iteNT ?_
          walk_at "aa"
          refine ⟨p, _, rfl, dis_ds hp ha, ?_⟩
          walk_at "aa"
          refine iteD (fun c => ?_) (fun c => ?_)
          · obtain ⟨fi, fell⟩ := fell fun q hq => by rw [ha] at hq; cases hq; exact c
            walk_at "aa"
            refine ⟨by show 2 ≤ sizeLine; decide, fun t5 n5 => ?_⟩
            have s5 := same_new (o := .tup [.int (l + pb), .bl false]) n5
            refine a_gtup upd_same rfl ?_
            refine a_gcons ?_
            refine a_gsub ?_
            walk_at "aa"
            refine dk_set (hp.same s5) hab.1 (by omega) fun kvs hk => ?_
            obtain ⟨y1, f', y2, y3⟩ := fell kvs _ s5 hk
            walk_at "aa"
            exact ⟨y1, f', false, y2, y3, fun _ => fi, _, _, _, rfl⟩
          · walk_at "aa"
            have c : ¬ l + pb < pa := c
            exact ⟨sF4, f, dn, hp, stay ⟨pa, ha, by omega⟩, hdn, _, _, _, rfl⟩
    · rintro σ H3 ⟨sF3, f, dn, hp, bf, hdn, q5, q6, q7, rfl⟩
      rw [List.take_of_length_le (by unfold lenV; rw [List.length_map]; exact Nat.le_refl _)] at bf
      have bf' := bf.round (fun x y l e => (arcs_in ok2 e).2) fun x y l e => lookup_mem e
      refine ⟨sF3 _ _ upd_same, ?_⟩
      cases dn with
      | true => exact ⟨0, by omega, same_unlock sF3 hm, f, i + 1, true, DK.stay (upd_ne (Ne.symm pm)) hp, bf', fun h => (nomatch h), fun _ => rfl, _, _, _, rfl⟩
      | false =>
        have := hdn rfl
        exact ⟨R.length + 1 - (i + 1), by omega, same_unlock sF3 hm, f, i + 1, false, DK.stay (upd_ne (Ne.symm pm)) hp, bf', fun _ => ⟨rfl, by omega⟩, fun h => (nomatch h), _, _, _, rfl⟩
end QB
set_option Elab.async false
set_option linter.all false
set_option maxRecDepth 100000
set_option maxHeartbeats 4000000

set_option pp.deepTerms false
set_option pp.deepTerms.threshold 10
namespace QB
open PySem PySem.Spec L2
open PyProof.Rows (envOfC)
open PySem.PyData (strOk)
open RZ (Ty4 rIsTy call_isTy pi_zipA iZipA ItzT for_zipT for_zipL)
open StX (tStar pa_star)
open QS (SrtR tSrt rSrtI rSrtS rSrtT)
open QT (AllQ Ole Olt)
local macro_rules | `(tactic| walk_at "hp") => `(tactic| first | assumption | exact upd_same | (refine sg (by assumption) ?_; walk_at "hp"))
local macro_rules | `(tactic| walk_at "a") => `(tactic| first
  | with_reducible refine a_seq ?_ | with_reducible refine a_asg ?_ | with_reducible refine a_drop ?_ | with_reducible refine a_ret ?_ | with_reducible refine a_retN ?_
  | with_reducible refine a_ifS ?_ | with_reducible refine a_next ?_ | with_reducible refine a_gname ?_ | with_reducible refine a_nx ?_ | with_reducible refine a_rt ?_ | with_reducible refine a_bk ?_ | with_reducible refine a_ct ?_
  | ((with_reducible show tVar _ _ _ _); refine a_var rfl ?_) | with_reducible refine a_c ?_ | with_reducible refine a_op ?_ | with_reducible refine a_un ?_ | with_reducible refine a_cb ?_ | with_reducible refine a_nil ?_ | with_reducible refine a_cons ?_
  | with_reducible refine a_call ?_ | with_reducible refine a_meth ?_ | with_reducible refine a_make ?_ | with_reducible refine a_test ?_ | with_reducible refine a_tTest ?_ | with_reducible refine a_tand ?_ | with_reducible refine a_tor ?_ | with_reducible refine a_tnot ?_
  | with_reducible refine a_and ?_ | with_reducible refine a_or ?_ | with_reducible refine a_not ?_ | with_reducible refine a_if ?_ | with_reducible refine a_ri0 ?_ | with_reducible refine a_tup ?_ | with_reducible refine a_lst ?_
  | with_reducible refine a_bl ?_ | with_reducible refine a_sfld ?_ | with_reducible refine a_exI ?_ | with_reducible refine a_exZ ?_ | with_reducible refine a_chain ?_ | with_reducible refine a_lc ?_ | with_reducible refine a_yes ?_ | with_reducible refine a_gcons ?_ | with_reducible refine a_gnil ?_ | with_reducible refine w_list ?_ | with_reducible refine w_tup ?_ | with_reducible refine w_str ?_ | with_reducible refine w_rng1 ?_ | with_reducible refine w_zip ?_ | with_reducible refine w_zipA ?_
  | with_reducible refine a_tFld ?_ | with_reducible refine a_dget ?_ | with_reducible refine a_din ?_ | with_reducible refine a_dnin ?_ | with_reducible refine a_sl ?_ | with_reducible refine a_slNone ?_ | with_reducible refine a_slSome ?_
  | with_reducible refine a_isN ?_ | with_reducible refine a_notN ?_ | with_reducible refine a_eqI ?_ | with_reducible refine a_neI ?_ | with_reducible refine a_eqZ ?_ | with_reducible refine a_neZ ?_ | with_reducible refine a_ltZ ?_ | with_reducible refine a_int ?_ | with_reducible refine a_intB ?_ | with_reducible refine a_abs ?_ | with_reducible refine a_max2 ?_ | with_reducible refine a_min2 ?_ | with_reducible refine a_bm ?_
  | ((with_reducible show rLenQ _ _ _ _); first | refine a_lenT (by walk_at "hp") ?_ | refine a_lenL (by walk_at "hp") ?_)
  | with_reducible refine a_prsC ?_ | with_reducible refine a_prsN ?_ | with_reducible refine a_for ?_ | with_reducible refine a_dput ?_ | with_reducible refine w_keys ?_ | with_reducible refine w_listT ?_
  | with_reducible refine QB.a_rU ?_ | with_reducible refine QB.a_cKw ?_ | with_reducible refine QB.a_star ?_ | with_reducible refine QB.a_dget2 ?_
  | with_reducible refine QB.a_par ?_ | with_reducible refine QB.a_par3 ?_
  | with_reducible refine QB.a_srt ?_
  | with_reducible refine QB.a_dc ?_
  | with_reducible refine iteT ?_ | with_reducible refine iteNT ?_ | with_reducible refine iteNF ?_ | with_reducible refine iteF ?_ | with_reducible refine a_prop ?_)
local macro_rules | `(tactic| walk_at "aa") => `(tactic| (walk_at "a"; repeat walk_at "a"))

variable {P : Program} {w : World} {K : PySem.W.Frag} {mg : Str → Option Value} {base : Heap} {CN CC : Addr}
/-- ns == [] -/
theorem a_eqNilZ {K : PySem.W.Frag} {H : Hp} {Q : VK} {a b : Addr} {ns : List Int} (h : H a = some (.lst (ns.map V.int))) (hb : H b = some (.lst [])) (q : Q (.bl (decide (ns = []))) H) : rEqD K (.ref a) (.ref b) H Q :=
  a_eqD (ints_dp h) (.lst (SqL.of hb) .nil) (shaped_ints ns) rfl (by rw [eqv_nil]; exact q)
/-- for each destination a dict of ints -/
def PlainW (H : Hp) (p : Addr) (R : List Str) (S : List Str) : Prop := ∃ g, DK H p R g ∧ ∀ d ∈ S, ∃ q f, g d = some (.ref q) ∧ DisAt H q R f
theorem PlainW.same {H H' : Hp} {p : Addr} {R S : List Str} (s : Same H H') (h : PlainW H p R S) : PlainW H' p R S := by
  obtain ⟨g, h1, h2⟩ := h
  refine ⟨g, h1.same s, fun d hd => ?_⟩
  obtain ⟨q, f, e, hq⟩ := h2 d hd
  exact ⟨q, f, e, hq.same s⟩
/-- the state as a plain list -/
theorem lc_st {J : It} {g : TG} {tt : TT} {te : TE} {vs : List Nat} {σ σ' : L2.St} {H : Hp} {D : Addr} {Q : VK} (e : σ = σ') (h : LcW J g tt te vs σ' H D Q) : LcW J g tt te vs σ H D Q := by
  rw [e]; exact h
def spPointOf : Sp := fun vs H Q _ => ∃ (pl lk : Addr) (R : List Str) (l : Lnk) (x d : Str), vs = [.ref pl, .ref lk, .str x, .str d] ∧ PlainW H pl R R ∧ H lk = some (.tup [.str l.a, .str l.b, .int l.th, .int l.bk]) ∧ l.a ∈ R ∧ l.b ∈ R ∧ d ∈ R ∧ ∀ (H' : Hp) (o : Option Int), Same H H' → Q (oV o) H'
abbrev N__law_point_of : List Str := ["_law_plain", "_law_link", "_law_router", "_law_d", "_law_over", "_law_a", "_law_b", "_law_there", "_law_back", "_law_near", "_law_length", "_law_far_here", "_law_one"]
theorem sc__law_point_of : FnScope N__law_point_of ["_law_plain", "_law_link", "_law_router", "_law_d"] (defScope QH.s__law_point_of) := ⟨rfl, rfl, rfl, by decide +kernel, rfl, by decide +kernel, by decide +kernel⟩
theorem D_law_point_of (T : Tx P w K mg base CN CC) (F : FunAt K mg "_law_point_of" QH.s__law_point_of) : DefOk P w K mg base "_law_point_of" ["_law_plain", "_law_link", "_law_router", "_law_d"] spPointOf 1 := by
  refine mk_def F sc__law_point_of (fun _ _ _ _ _ _ us hl => match us, hl with | [_, _, _, _], _ => rfl) (fun vs H Q E h => by obtain ⟨pl, lk, R, l, x, d, rfl, _⟩ := h; rfl) (fun f cdv A outer s0 H vs Q E hr h => ?_)
  have nd := sc__law_point_of.nd
  obtain ⟨pl, lk, R, l, x, d, rfl, hpl, hlk, la, lb, hd, k⟩ := h
  refine ⟨_, (pss_cons (ps_asg (pv 1) (ki_gtup (K := K) rfl (pgs_cons (pg_name (i := 5) nd rfl (by first | exact Or.inl rfl | exact Or.inr rfl)) (pgs_cons (pg_name (i := 6) nd rfl (by first | exact Or.inl rfl | exact Or.inr rfl)) (pgs_cons (pg_name (i := 7) nd rfl (by first | exact Or.inl rfl | exact Or.inr rfl)) (pgs_cons (pg_name (i := 8) nd rfl (by first | exact Or.inl rfl | exact Or.inr rfl)) pgs_nil))))))
    (pss_cons (ps_setLc (i := 4) (own := [("_law_near", 9), ("_law_length", 10), ("_law_far_here", 11)]) (g := (gTup K 3 (gCons (gName 9) (gCons (gName 10) (gCons (gName 11) gNil))))) rfl nd rfl rfl (sw_true rfl rfl rfl (by decide +kernel)) (ki_ptup (K := K) (pe_tup (pa_cons (pe_tup (pa_cons (pv 5) (pa_cons (pv 7) (pa_cons (pv 6) pa_nil)))) (pa_cons (pe_tup (pa_cons (pv 6) (pa_cons (pv 8) (pa_cons (pv 5) pa_nil)))) pa_nil)))) (blkOk_by (by with_unfolding_all rfl)) (fun _ _ _ _ _ => (ki_gtup (K := K) rfl (pgs_cons (pg_name (i := 9) nd rfl (by first | exact Or.inl rfl | exact Or.inr rfl)) (pgs_cons (pg_name (i := 10) nd rfl (by first | exact Or.inl rfl | exact Or.inr rfl)) (pgs_cons (pg_name (i := 11) nd rfl (by first | exact Or.inl rfl | exact Or.inr rfl)) pgs_nil))))) (fun _ _ _ _ _ => (pts_one (PW.pt (pw_and (pt_cmp (pc_din (hu_of hr) (pv 2) (pe_dget (hu_of hr) (pv 0) (pv 9) (fun _ _ => rfl)))) (pw_and1 (pt_cmp (pc_din (hu_of hr) (pv 11) (pe_dget (hu_of hr) (pv 0) (pv 3) (fun _ _ => rfl))))))))) (fun _ _ _ _ _ => (pe_op op_add (pe_op op_add (pe_dget (hu_of hr) (pe_dget (hu_of hr) (pv 0) (pv 9) (fun _ _ => rfl)) (pv 2) (fun _ _ => rfl)) (pv 10)) (pe_dget (hu_of hr) (pe_dget (hu_of hr) (pv 0) (pv 3) (fun _ _ => rfl)) (pv 11) (fun _ _ => rfl)))))
    (pss_cons (ps_if (PW.pt (pw_or (pt_cmpR op_eq (pv 2) (pv 3) (nomark _)) (pw_or (pt_cmp (pc_dnotin (hu_of hr) (pv 2) (pe_dget (hu_of hr) (pv 0) (pv 3) (fun _ _ => rfl)))) (pw_or1 (pt_cmpR (ki_eqD (K := K) hr.units) (pv 4) (pe_lst pa_nil) (nomark _)))))) (pss_one (ps_ret pe_non)) pss_nil)
    (pss_one (ps_ret (pe_op op_sub (pe_dget (hu_of hr) (pe_dget (hu_of hr) (pv 0) (pv 3) (fun _ _ => rfl)) (pv 2) (fun _ _ => rfl)) (pe_callB (ki_min (K := K) rfl) (by rfl) T.f_min (by decide +kernel) (pa_cons (pe_lc (own := [("_law_one", 12)]) (g := (gName 12)) (tt := tYes) rfl nd (ki_plist (K := K) (pv 4)) (blkOk_by (by with_unfolding_all rfl)) (fun _ _ _ _ _ => (pg_name (i := 12) nd rfl (by first | exact Or.inl rfl | exact Or.inr rfl))) (fun _ _ _ _ _ => pts_nil) (fun _ _ _ _ _ => (pe_callTy c_int (by rfl) T.f_int (by decide +kernel) (pa_cons (pv 12) pa_nil)))) pa_nil)))))))), ?_⟩
  walk_at "aa"
  refine a_gtup hlk rfl ?_
  walk_at "aa"
  refine ⟨by show 3 ≤ sizeLine; decide, fun t1 n1 => ?_⟩
  have s1 := same_new (o := .tup [.str l.a, .int l.th, .str l.b]) n1
  walk_at "aa"
  refine ⟨by show 3 ≤ sizeLine; decide, fun t2 n2 => ?_⟩
  have s2 := same_new (o := .tup [.str l.b, .int l.bk, .str l.a]) n2
  walk_at "aa"
  refine ⟨by show 2 ≤ sizeLine; decide, fun t3 n3 => ?_⟩
  have s3 := same_new (o := .tup [.ref t1, .ref t2]) n3
  have h1 := s3 _ _ (s2 _ _ (show upd H t1 (.tup [.str l.a, .int l.th, .str l.b]) t1 = _ from upd_same))
  have h2 := s3 _ _ (show upd (upd H t1 (.tup [.str l.a, .int l.th, .str l.b])) t2 (.tup [.str l.b, .int l.bk, .str l.a]) t2 = _ from upd_same)
  have h3 : upd (upd (upd H t1 (.tup [.str l.a, .int l.th, .str l.b])) t2 (.tup [.str l.b, .int l.bk, .str l.a])) t3 (.tup [.ref t1, .ref t2]) t3 = _ := upd_same
  have s03 := s1.trans (s2.trans s3)
  generalize upd (upd (upd H t1 (.tup [.str l.a, .int l.th, .str l.b])) t2 (.tup [.str l.b, .int l.bk, .str l.a])) t3 (.tup [.ref t1, .ref t2]) = H3 at *
  refine ⟨t3, rfl, ⟨_, SqT.of h3⟩, fun D nD => ?_⟩
  refine lc_st (σ' := [some (.ref pl), some (.ref lk), some (.str x), some (.str d), none, some (.str l.a), some (.str l.b), some (.int l.th), some (.int l.bk), none, none, none, none]) rfl ?_
  refine lc_go (it_tup h3) (Same.refl H3) nD (fun i acc _ => ∃ ns : List Int, acc = ns.map V.int) ⟨[], rfl⟩ (fun _ _ _ _ _ r => r) ?_ ?_
  · rintro i acc H4 v hi sF hD lc ⟨ns, rfl⟩ hv
    have hi2 : i < 2 := hi
    have step : ∃ (o : Addr) (near far : Str) (len : Int), v = .ref o ∧ H3 o = some (.tup [.str near, .int len, .str far]) ∧ near ∈ R := by
      match i, hi with
      | 0, _ => exact ⟨t1, l.a, l.b, l.th, by simpa using hv.symm, h1, la⟩
      | 1, _ => exact ⟨t2, l.b, l.a, l.bk, by simpa using hv.symm, h2, lb⟩
    obtain ⟨o, near, far, len, rfl, ho, hnear⟩ := step
    refine a_gtup (sF _ _ ho) rfl ?_
    obtain ⟨g, dg, gg⟩ := hpl.same (s03.trans sF)
    obtain ⟨qn, fn, en, hqn⟩ := gg near hnear
    obtain ⟨qd, fd', ed, hqd⟩ := gg d hd
    walk_at "aa"
    refine ⟨rfl, ?_⟩
    walk_at "aa"
    refine ⟨pl, _, rfl, dk_ds dg en, ?_⟩
    refine ⟨qn, _, rfl, dis_dg hqn, ?_⟩
    refine a_bl ?_
    cases hp : fn x with
    | none =>
      refine iteF ?_
      refine iteF ?_
      exact lc_skip sF hD lc ⟨ns, rfl⟩
    | some p =>
      refine iteT ?_
      walk_at "aa"
      refine ⟨pl, _, rfl, dk_ds dg ed, ?_⟩
      refine ⟨qd, _, rfl, dis_dg hqd, ?_⟩
      refine a_bl ?_
      cases hq : fd' far with
      | none =>
        refine iteF ?_
        exact lc_skip sF hD lc ⟨ns, rfl⟩
      | some q =>
        refine iteT ?_
        walk_at "aa"
        refine ⟨pl, _, rfl, dk_ds dg en, ?_⟩
        walk_at "aa"
        refine ⟨qn, _, rfl, dis_ds hqn hp, ?_⟩
        walk_at "aa"
        refine ⟨pl, _, rfl, dk_ds dg ed, ?_⟩
        walk_at "aa"
        refine ⟨qd, _, rfl, dis_ds hqd hq, ?_⟩
        walk_at "aa"
        exact lc_put (by omega) nD (fun _ _ _ _ _ r => r) sF hD lc ⟨ns ++ [p + len + q], by simp⟩
  · rintro acc H4 sF hD lc ⟨ns, rfl⟩
    have lns : ns.length ≤ 2 := by simpa using lc
    obtain ⟨g, dg, gg⟩ := hpl.same (s03.trans sF)
    obtain ⟨qd, fd', ed, hqd⟩ := gg d hd
    have s04 := s03.trans sF
    walk_at "aa"
    refine iteD (fun c1 => ?_) (fun c1 => ?_)
    · walk_at "aa"
      exact k H4 none s04
    walk_at "aa"
    refine ⟨pl, _, rfl, dk_ds dg ed, ?_⟩
    refine ⟨qd, _, rfl, dis_dg hqd, ?_⟩
    refine a_bl ?_
    cases hq : fd' x with
    | none =>
      refine iteNF ?_
      walk_at "aa"
      exact k H4 none s04
    | some p =>
      refine iteNT ?_
      walk_at "aa"
      refine ⟨by show 0 ≤ sizeLine; decide, fun te nte => ?_⟩
      have s5 := same_new (o := .lst []) nte
      refine a_eqNilZ (s5 _ _ hD) upd_same ?_
      have s05 := s04.trans s5
      have hD5 := s5 _ _ hD
      have dg5 := dg.same s5
      have hqd5 := hqd.same s5
      generalize upd H4 te (.lst []) = H5 at *
      refine a_bl ?_
      refine iteD (fun c2 => ?_) (fun c2 => ?_)
      · walk_at "aa"
        exact k H5 none s05
      · walk_at "aa"
        refine ⟨pl, _, rfl, dk_ds dg5 ed, ?_⟩
        walk_at "aa"
        refine ⟨qd, _, rfl, dis_ds hqd5 hq, ?_⟩
        walk_at "aa"
        refine ⟨D, rfl, ⟨_, SqL.of hD5⟩, fun D6 nD6 => ?_⟩
        refine lc_go (it_list hD5) (Same.refl H5) nD6 (fun i acc _ => acc = (ns.take i).map V.int) rfl (fun _ _ _ _ _ r => r) ?_ ?_
        · rintro i acc H6 v hi sF6 hD6 lc6 rfl hv
          rw [List.getElem?_map] at hv
          obtain ⟨n, e1, rfl⟩ := Option.map_eq_some_iff.mp hv
          walk_at "aa"
          refine ⟨rfl, ?_⟩
          walk_at "aa"
          refine lc_put (by simp at hi; omega) nD6 (fun _ _ _ _ _ r => r) sF6 hD6 lc6 ?_
          rw [List.take_succ, e1]
          simp
        · rintro acc H6 sF6 hD6 lc6 rfl
          rw [List.take_of_length_le (by simp)] at hD6
          walk_at "aa"
          refine a_minL hD6 c2 fun mm _ _ => ?_
          walk_at "aa"
          exact k H6 (some (p - mm)) (s05.trans sF6)
end QB
set_option Elab.async false
set_option linter.all false
set_option maxRecDepth 100000
set_option maxHeartbeats 4000000

set_option pp.deepTerms false
set_option pp.deepTerms.threshold 10
namespace QB
open PySem PySem.Spec L2
open PyProof.Rows (envOfC)
open PySem.PyData (strOk)
open RZ (Ty4 rIsTy call_isTy pi_zipA iZipA ItzT for_zipT for_zipL)
open StX (tStar pa_star)
open QS (SrtR tSrt rSrtI rSrtS rSrtT)
open QT (AllQ Ole Olt)
local macro_rules | `(tactic| walk_at "hp") => `(tactic| first | assumption | exact upd_same | (refine sg (by assumption) ?_; walk_at "hp"))
local macro_rules | `(tactic| walk_at "a") => `(tactic| first
  | with_reducible refine a_seq ?_ | with_reducible refine a_asg ?_ | with_reducible refine a_drop ?_ | with_reducible refine a_ret ?_ | with_reducible refine a_retN ?_
  | with_reducible refine a_ifS ?_ | with_reducible refine a_next ?_ | with_reducible refine a_gname ?_ | with_reducible refine a_nx ?_ | with_reducible refine a_rt ?_ | with_reducible refine a_bk ?_ | with_reducible refine a_ct ?_
  | ((with_reducible show tVar _ _ _ _); refine a_var rfl ?_) | with_reducible refine a_c ?_ | with_reducible refine a_op ?_ | with_reducible refine a_un ?_ | with_reducible refine a_cb ?_ | with_reducible refine a_nil ?_ | with_reducible refine a_cons ?_
  | with_reducible refine a_call ?_ | with_reducible refine a_meth ?_ | with_reducible refine a_make ?_ | with_reducible refine a_test ?_ | with_reducible refine a_tTest ?_ | with_reducible refine a_tand ?_ | with_reducible refine a_tor ?_ | with_reducible refine a_tnot ?_
  | with_reducible refine a_and ?_ | with_reducible refine a_or ?_ | with_reducible refine a_not ?_ | with_reducible refine a_if ?_ | with_reducible refine a_ri0 ?_ | with_reducible refine a_tup ?_ | with_reducible refine a_lst ?_
  | with_reducible refine a_bl ?_ | with_reducible refine a_sfld ?_ | with_reducible refine a_exI ?_ | with_reducible refine a_exZ ?_ | with_reducible refine a_chain ?_ | with_reducible refine a_lc ?_ | with_reducible refine a_yes ?_ | with_reducible refine a_gcons ?_ | with_reducible refine a_gnil ?_ | with_reducible refine w_list ?_ | with_reducible refine w_tup ?_ | with_reducible refine w_str ?_ | with_reducible refine w_rng1 ?_ | with_reducible refine w_zip ?_ | with_reducible refine w_zipA ?_
  | with_reducible refine a_tFld ?_ | with_reducible refine a_dget ?_ | with_reducible refine a_din ?_ | with_reducible refine a_dnin ?_ | with_reducible refine a_sl ?_ | with_reducible refine a_slNone ?_ | with_reducible refine a_slSome ?_
  | with_reducible refine a_isN ?_ | with_reducible refine a_notN ?_ | with_reducible refine a_eqI ?_ | with_reducible refine a_neI ?_ | with_reducible refine a_eqZ ?_ | with_reducible refine a_neZ ?_ | with_reducible refine a_ltZ ?_ | with_reducible refine a_int ?_ | with_reducible refine a_intB ?_ | with_reducible refine a_abs ?_ | with_reducible refine a_max2 ?_ | with_reducible refine a_min2 ?_ | with_reducible refine a_bm ?_
  | ((with_reducible show rLenQ _ _ _ _); first | refine a_lenT (by walk_at "hp") ?_ | refine a_lenL (by walk_at "hp") ?_)
  | with_reducible refine a_prsC ?_ | with_reducible refine a_prsN ?_ | with_reducible refine a_for ?_ | with_reducible refine a_dput ?_ | with_reducible refine w_keys ?_ | with_reducible refine w_listT ?_
  | with_reducible refine QB.a_rU ?_ | with_reducible refine QB.a_cKw ?_ | with_reducible refine QB.a_star ?_ | with_reducible refine QB.a_dget2 ?_
  | with_reducible refine QB.a_par ?_ | with_reducible refine QB.a_par3 ?_
  | with_reducible refine QB.a_srt ?_
  | with_reducible refine QB.a_dc ?_
  | with_reducible refine iteT ?_ | with_reducible refine iteNT ?_ | with_reducible refine iteNF ?_ | with_reducible refine iteF ?_ | with_reducible refine a_prop ?_)
local macro_rules | `(tactic| walk_at "aa") => `(tactic| (walk_at "a"; repeat walk_at "a"))

variable {P : Program} {w : World} {K : PySem.W.Frag} {mg : Str → Option Value} {base : Heap} {CN CC : Addr}
def bookKeys : List Str := ["world", "a", "b", "link", "tables", "quiet", "plain", "least", "points"]
/-- a dict that is written out -/
theorem merge_dk {R : List Str} : ∀ (kvs acc : List (Key × V)), (acc.map (·.1)).Nodup → (∀ k ∈ acc.map (·.1), k ∈ domS R) → (∀ e ∈ kvs, e.1 ∈ domS R) → ((mergeK acc kvs).map (·.1)).Nodup ∧ ∀ k ∈ (mergeK acc kvs).map (·.1), k ∈ domS R
  | [], _, h1, h2, _ => ⟨h1, h2⟩
  | e :: kvs, acc, h1, h2, h3 => by
    have ok : KeyOk (domS R) (valV acc) acc := ⟨fun _ => rfl, h1, h2⟩
    have ok' := ok.put (h3 e (by simp)) e.2
    exact merge_dk kvs _ ok'.nd ok'.dom fun x hx => h3 x (by simp [hx])
theorem new_dk {H : Hp} {p : Addr} {R : List Str} {kvs : List (Key × V)} (h : ∀ e ∈ kvs, e.1 ∈ domS R) : ∃ f, DK (upd H p (.dK (mergeK [] kvs))) p R f := by
  obtain ⟨h1, h2⟩ := merge_dk (R := R) kvs [] .nil (fun _ h => nomatch h) h
  exact ⟨fun z => valV (mergeK [] kvs) (.inr z), _, upd_same, fun _ => rfl, h1, h2⟩
/-- what is asked of a book; pp is the pot -/
def BookAt (H : Hp) (p : Addr) (lo : Int) (pts : List Int) (pp : Addr) : Prop := ∃ f q, DK H p bookKeys f ∧ f "least" = some (.int lo) ∧ f "points" = some (.ref q) ∧ H q = some (.lst (pts.map V.int)) ∧ q ≠ pp ∧ p ≠ pp
theorem BookAt.but {H H' : Hp} {p pp : Addr} {lo : Int} {pts : List Int} (s : But pp H H') (h : BookAt H p lo pts pp) : BookAt H' p lo pts pp := by
  obtain ⟨f, q, ⟨kvs, e, rr⟩, h2, h3, h4, h5, h6⟩ := h
  exact ⟨f, q, ⟨kvs, s _ _ h6 e, rr⟩, h2, h3, s _ _ h5 h4, h5, h6⟩
theorem BookAt.same {H H' : Hp} {p pp : Addr} {lo : Int} {pts : List Int} (s : Same H H') (h : BookAt H p lo pts pp) : BookAt H' p lo pts pp := h.but (But.of s)
/-- for some destinations a dict of ints each, apart from two dicts -/
def PlainN (H : Hp) (p bk : Addr) (R : List Str) (S : List Str) : Prop := ∃ g, DK H p R g ∧ ∀ d ∈ S, ∃ q f, q ≠ p ∧ q ≠ bk ∧ g d = some (.ref q) ∧ DisAt H q R f
theorem PlainN.same {H H' : Hp} {p bk : Addr} {R S : List Str} (s : Same H H') (h : PlainN H p bk R S) : PlainN H' p bk R S := by
  obtain ⟨g, h1, h2⟩ := h
  refine ⟨g, h1.same s, fun d hd => ?_⟩
  obtain ⟨q, f, e1, e2, e, hq⟩ := h2 d hd
  exact ⟨q, f, e1, e2, e, hq.same s⟩
theorem PlainN.book {H : Hp} {p bk : Addr} {R S : List Str} {o : HO} (ne : p ≠ bk) (h : PlainN H p bk R S) : PlainN (upd H bk o) p bk R S := by
  obtain ⟨g, h1, h2⟩ := h
  refine ⟨g, h1.stay (upd_ne ne), fun d hd => ?_⟩
  obtain ⟨q, f, e1, e2, e, hq⟩ := h2 d hd
  exact ⟨q, f, e1, e2, e, DK.stay (upd_ne e2) hq⟩
theorem PlainN.out {H : Hp} {p bk : Addr} {R S : List Str} (h : PlainN H p bk R S) : PlainW H p R S := by
  obtain ⟨g, h1, h2⟩ := h
  refine ⟨g, h1, fun d hd => ?_⟩
  obtain ⟨q, f, e1, e2, e, hq⟩ := h2 d hd
  exact ⟨q, f, e, hq⟩
theorem plain_put {H : Hp} {p bk q : Addr} {R S : List Str} {d : Str} {f : Str → Option Int} {k : L2.St → Hp → Prop} {σ : L2.St} (h : PlainN H p bk R S) (hd : d ∈ R) (h8 : R.length ≤ 8) (np : q ≠ p) (nb : q ≠ bk) (hq : DisAt H q R f)
    (c : ∀ kvs, PlainN (upd H p (.dK kvs)) p bk R (S ++ [d]) → k σ (upd H p (.dK kvs))) : ∃ a H4, V.ref p = .ref a ∧ DPut H a (.str d) (.ref q) H4 ∧ k σ H4 := by
  obtain ⟨g, h1, h2⟩ := h
  refine dk_put h1 hd (by omega) fun kvs hk => c kvs ⟨_, hk, fun e he => ?_⟩
  by_cases ed : e = d
  · subst ed
    exact ⟨q, f, np, nb, if_pos rfl, DK.stay (upd_ne np) hq⟩
  · rcases List.mem_append.mp he with he | he
    · obtain ⟨u, f', e1, e2, e3, hu⟩ := h2 e he
      exact ⟨u, f', e1, e2, by show (if _ then _ else _) = _; rw [if_neg ed]; exact e3, DK.stay (upd_ne e1) hu⟩
    · exact absurd (List.mem_singleton.mp he) ed
theorem WorldAt.parts {H : Hp} {a : Addr} {R : List Str} {ls : List Lnk} (h : WorldAt H a R ls) : ∃ r l vs, H a = some (.tup [.ref r, .ref l]) ∧ H r = some (.tup (R.map V.str)) ∧ H l = some (.tup vs) ∧ LinksAt H vs ls := h
def spBook : Sp := fun vs H Q _ => ∃ (wd pp : Addr) (o : HO) (R : List Str) (ls : List Lnk) (l : Lnk), vs = [.ref wd, .str l.a, .str l.b] ∧ H pp = some o ∧ WorldAt H wd R ls ∧ RoutersOk R ∧ LinksOk R ls ∧ l ∈ ls ∧ ∀ (p : Addr) (H' : Hp) (pts : List Int), Same H H' → BookAt H' p (leastOf l) pts pp → pts.length ≤ 64 → Q (.ref p) H'
abbrev N__law_book : List Str := ["_law_world_here", "_law_a", "_law_b", "_law_link", "_law_book_here", "_law_d", "_law_some", "_law_bare", "_law_plain", "_law_one", "_law_router", "_law_at"]
theorem sc__law_book : FnScope N__law_book ["_law_world_here", "_law_a", "_law_b"] (defScope QH.s__law_book) := ⟨rfl, rfl, rfl, by decide +kernel, rfl, by decide +kernel, by decide +kernel⟩
theorem D_law_book (T : Tx P w K mg base CN CC) (F : FunAt K mg "_law_book" QH.s__law_book) (D_law_lengths : DefOk P w K mg base "_law_lengths" ["_law_links"] spLens 1) (D_law_without : DefOk P w K mg base "_law_without" ["_law_world_here", "_law_a", "_law_b"] spWithout0 1) (D_law_far_from : DefOk P w K mg base "_law_far_from" ["_law_routers", "_law_lengths_here", "_law_d"] spFarFrom 1) (D_law_point_of : DefOk P w K mg base "_law_point_of" ["_law_plain", "_law_link", "_law_router", "_law_d"] spPointOf 1) : DefOk P w K mg base "_law_book" ["_law_world_here", "_law_a", "_law_b"] spBook 2 := by
  refine mk_def F sc__law_book (fun _ _ _ _ _ _ us hl => match us, hl with | [_, _, _], _ => rfl) (fun vs H Q E h => by obtain ⟨wd, pp, o, R, ls, l, rfl, _⟩ := h; rfl) (fun f cdv A outer s0 H vs Q E hr h => ?_)
  have nd := sc__law_book.nd
  obtain ⟨wd, pp, opp, R, ls, l, rfl, hpp, hw, ok1, ok2, hl, k⟩ := h
  have h8 := ok1.most
  have h16 := ok2.most
  have ol := ok2.each l hl
  refine ⟨_, (pss_cons (ps_set (i := 3) nd rfl (by first | exact Or.inl rfl | exact Or.inr rfl) (pe_ix (ki_ixL (K := K)) (pe_lc (own := [("_law_one", 9)]) (g := (gName 9)) rfl nd (ki_ptup (K := K) (pe_ix (ki_ixT (K := K)) (pv 0) pe_int (fun _ _ => rfl))) (blkOk_by (by with_unfolding_all rfl)) (fun _ _ _ _ _ => (pg_name (i := 9) nd rfl (by first | exact Or.inl rfl | exact Or.inr rfl))) (fun _ _ _ _ _ => (pts_one (pt_cmpR (ki_eqD (K := K) hr.units) (pe_slice (ki_slA (K := K)) (pv 9) po_none (po_some pe_int)) (pe_tup (pa_cons (pv 1) (pa_cons (pv 2) pa_nil))) (nomark _)))) (fun _ _ _ _ _ => (pv 9))) pe_int (fun _ _ => rfl)))
    (pss_cons (ps_set (i := 4) nd rfl (by first | exact Or.inl rfl | exact Or.inr rfl) (pe_disp (pps_cons pe_str (pv 0) (pps_cons pe_str (pv 1) (pps_cons pe_str (pv 2) (pps_cons pe_str (pv 3) (pps_cons pe_str pe_dnewK (pps_cons pe_str pe_dnewK pps_nil)))))) (by rfl) (by rfl) (fun z => by cases z) (by decide)))
    (pss_cons (ps_asg (pe_tup (pa_cons (pe_callD D_law_lengths (hr.mono (by decide)) (by rfl) (pa_cons (pe_ix (ki_ixT (K := K)) (pe_callD D_law_without (hr.mono (by decide)) (by rfl) (pa_cons (pv 0) (pa_cons (pv 1) (pa_cons (pv 2) pa_nil)))) pe_int (fun _ _ => rfl)) pa_nil)) (pa_cons pe_dnewK pa_nil))) (ki_gtup (K := K) rfl (pgs_cons (pg_name (i := 7) nd rfl (by first | exact Or.inl rfl | exact Or.inr rfl)) (pgs_cons (pg_name (i := 8) nd rfl (by first | exact Or.inl rfl | exact Or.inr rfl)) pgs_nil))))
    (pss_cons (ps_for PassesOwn.never rfl (ki_ptup (K := K) (pe_ix (ki_ixT (K := K)) (pv 0) pe_int (fun _ _ => rfl))) (pg_name (i := 5) nd rfl (by first | exact Or.inl rfl | exact Or.inr rfl)) (pss_one (ps_dput (hu_of hr) (pv 8) (pv 5) (pe_callD D_law_far_from (hr.mono (by decide)) (by rfl) (pa_cons (pe_ix (ki_ixT (K := K)) (pv 0) pe_int (fun _ _ => rfl)) (pa_cons (pv 7) (pa_cons (pv 5) pa_nil)))) rfl)))
    (pss_cons (ps_asg (pe_tup (pa_cons (pv 8) (pa_cons (pe_op op_sub pe_int (pe_callB (c_min2 rfl) (by rfl) T.f_min (by decide +kernel) (pa_cons (pe_callTy c_int (by rfl) T.f_int (by decide +kernel) (pa_cons (pe_ix (ki_ixT (K := K)) (pv 3) pe_int (fun _ _ => rfl)) pa_nil)) (pa_cons (pe_callTy c_int (by rfl) T.f_int (by decide +kernel) (pa_cons (pe_ix (ki_ixT (K := K)) (pv 3) pe_int (fun _ _ => rfl)) pa_nil)) pa_nil)))) pa_nil))) (ki_gtup (K := K) rfl (pgs_cons (pg_sub (pv 4) pe_str (set_dict (hu_of hr))) (pgs_cons (pg_sub (pv 4) pe_str (set_dict (hu_of hr))) pgs_nil))))
    (pss_cons (ps_set (i := 6) nd rfl (by first | exact Or.inl rfl | exact Or.inr rfl) (pe_lst pa_nil))
    (pss_cons (ps_for PassesOwn.never rfl (ki_ptup (K := K) (pe_ix (ki_ixT (K := K)) (pv 0) pe_int (fun _ _ => rfl))) (pg_name (i := 5) nd rfl (by first | exact Or.inl rfl | exact Or.inr rfl)) (pss_one (ps_expr (pe_bm PySem.F.plainAttrs_list PySem.F.slot_list_extend PySem.F.type_list_extend mt_extend (pv 6) (pa_cons (pe_lc (own := [("_law_router", 10)]) (g := (gName 10)) (tt := tYes) rfl nd (ki_ptup (K := K) (pe_ix (ki_ixT (K := K)) (pv 0) pe_int (fun _ _ => rfl))) (blkOk_by (by with_unfolding_all rfl)) (fun _ _ _ _ _ => (pg_name (i := 10) nd rfl (by first | exact Or.inl rfl | exact Or.inr rfl))) (fun _ _ _ _ _ => pts_nil) (fun _ _ _ _ _ => (pe_callD D_law_point_of (hr.mono (by decide)) (by rfl) (pa_cons (pv 8) (pa_cons (pv 3) (pa_cons (pv 10) (pa_cons (pv 5) pa_nil))))))) pa_nil)))))
    (pss_cons (ps_dput (hu_of hr) (pv 4) pe_str (QS.pe_srt (ki_srtI (K := K) rfl (hu65 hr)) (by rfl) T.f_sorted (by rfl) T.f_set (pe_lc (own := [("_law_at", 11)]) (g := (gName 11)) rfl nd (ki_plist (K := K) (pv 6)) (blkOk_by (by with_unfolding_all rfl)) (fun _ _ _ _ _ => (pg_name (i := 11) nd rfl (by first | exact Or.inl rfl | exact Or.inr rfl))) (fun _ _ _ _ _ => (pts_one (pt_cmpR op_notN1 (pv 11) pe_non (nomark _)))) (fun _ _ _ _ _ => (pe_callTy c_int (by rfl) T.f_int (by decide +kernel) (pa_cons (pv 11) pa_nil))))) rfl)
    (pss_one (ps_ret (pv 4))))))))))), ?_⟩
  obtain ⟨r, la, us, w1, w2, w3, w4⟩ := hw.parts
  have hlen := w4.length
  walk_at "aa"
  refine a_ixT w1 rfl ?_
  refine ⟨la, rfl, ⟨_, SqT.of w3⟩, fun D nD => ?_⟩
  refine lc_go (it_tup w3) (Same.refl H) nD (fun i acc H' => (∀ v ∈ acc, LinkAt H' v l) ∧ (l ∈ ls.take i → acc ≠ [])) ⟨fun _ h => (nomatch h), fun h => by simp at h⟩ (fun i acc H H' s r => ⟨fun v hv => (r.1 v hv).ts s, r.2⟩) ?_ ?_
  · rintro i acc H2 x hi sF hD lc ⟨r1, r2⟩ hx
    obtain ⟨y, e1, t, rfl, ht⟩ := paired_get w4 hx
    have hy := List.mem_of_getElem? e1
    have ht2 := sF _ _ ht
    walk_at "aa"
    refine ⟨rfl, ?_⟩
    walk_at "aa"
    refine a_slT ht2 fun p3 H3 s3 h3 => ?_
    walk_at "aa"
    refine ⟨by show 2 ≤ sizeLine; decide, fun t4 n4 => ?_⟩
    have s4 := same_new (o := .tup [.str l.a, .str l.b]) n4
    have s34 := s3.trans s4
    refine a_eqT (neg := false) (xs := [y.a, y.b]) (ys := [l.a, l.b]) (s4 _ _ h3) upd_same (fun z hz => ?_) (fun z hz => ?_) ?_
    · rcases List.mem_cons.mp hz with rfl | hz
      · exact ((ok2.each y hy).na ok1).ok
      · rw [List.mem_singleton.mp hz]; exact ((ok2.each y hy).nb ok1).ok
    · rcases List.mem_cons.mp hz with rfl | hz
      · exact (ol.na ok1).ok
      · rw [List.mem_singleton.mp hz]; exact (ol.nb ok1).ok
    refine a_bl ?_
    refine iteD (fun c => ?_) (fun c => ?_)
    · have ey : y = l := ab_inj ok2.nd hy hl (by
        injection c with c1 c2
        injection c2 with c2 _
        show (y.a, y.b) = (l.a, l.b)
        rw [c1, c2])
      subst ey
      walk_at "aa"
      refine lc_put (by omega) nD (fun i acc H H' s r => ⟨fun v hv => (r.1 v hv).ts s, r.2⟩) (sF.trans s34) (s34 _ _ hD) lc ⟨fun v hv => ?_, fun _ => by simp⟩
      rcases List.mem_append.mp hv with hv | hv
      · exact (r1 v hv).ts (tsS s34)
      · rw [List.mem_singleton.mp hv]; exact ⟨t, rfl, s34 _ _ ht2⟩
    · refine lc_skip (sF.trans s34) (s34 _ _ hD) lc ⟨fun v hv => (r1 v hv).ts (tsS s34), fun hm => ?_⟩
      rcases (mem_take e1).mp hm with hm | rfl
      · exact r2 hm
      · exact absurd rfl c
  rintro acc H2 sF hD lc ⟨r1, r2⟩
  rw [List.take_of_length_le (by omega)] at r2
  obtain ⟨v, acc', rfl⟩ : ∃ v acc', acc = v :: acc' := by
    cases acc with
    | nil => exact absurd rfl (r2 hl)
    | cons v a => exact ⟨v, a, rfl⟩
  obtain ⟨lt, rfl, hlt⟩ := r1 v (by simp)
  walk_at "aa"
  refine a_ixL hD at_z0 ?_
  walk_at "aa"
  refine a_disp fun bk H3 nbk s3 h3 => ?_
  walk_at "aa"
  refine a_newK fun d4 H4 n4 s4 h4 => ?_
  walk_at "aa"
  refine a_newK fun d5 H5 n5 s5 h5 => ?_
  walk_at "aa"
  refine ⟨s5 _ _ (s4 _ _ h3), [(.inr "world", .ref wd), (.inr "a", .str l.a), (.inr "b", .str l.b), (.inr "link", .ref lt), (.inr "tables", .ref d4), (.inr "quiet", .ref d5)], rfl, by show 6 ≤ 15; decide, ?_⟩
  have s25 := s3.trans (s4.trans s5)
  obtain ⟨fb, hbk⟩ := new_dk (H := H5) (p := bk) (R := bookKeys) (kvs := [(.inr "world", .ref wd), (.inr "a", .str l.a), (.inr "b", .str l.b), (.inr "link", .ref lt), (.inr "tables", .ref d4), (.inr "quiet", .ref d5)]) (by
    intro e he
    simp only [List.mem_cons, List.not_mem_nil, or_false] at he
    rcases he with rfl | rfl | rfl | rfl | rfl | rfl <;> exact mem_domS.mpr (by decide +kernel))
  have s26 : Same H2 (upd H5 bk (.dK (mergeK [] [(.inr "world", .ref wd), (.inr "a", .str l.a), (.inr "b", .str l.b), (.inr "link", .ref lt), (.inr "tables", .ref d4), (.inr "quiet", .ref d5)]))) := same_mut s25 nbk
  generalize upd H5 bk (.dK (mergeK [] [(.inr "world", .ref wd), (.inr "a", .str l.a), (.inr "b", .str l.b), (.inr "link", .ref lt), (.inr "tables", .ref d4), (.inr "quiet", .ref d5)])) = H6 at *
  have s06 := sF.trans s26
  have hlt6 := s26 _ _ hlt
  walk_at "aa"
  refine ⟨wd, R, ls, l.a, l.b, rfl, hw.ts (tsS s06), ok1, ok2, ol.ra, ol.rb, fun n7 H7 s7 hw7 => ?_⟩
  walk_at "aa"
  obtain ⟨r7, la7, us7, w71, w72, w73, w74⟩ := hw7.parts
  have ok2l := sub_links ok2 (less_sub ls l.a l.b)
  refine a_ixT w71 rfl ?_
  walk_at "aa"
  refine ⟨la7, us7, R, _, rfl, w73, w74, ok2l, fun m8 H8 s8 hm8 => ?_⟩
  walk_at "aa"
  refine a_newK fun pl H9 npl s9 h9 => ?_
  walk_at "aa"
  refine ⟨by show 2 ≤ sizeLine; decide, fun t10 n10 => ?_⟩
  have s10 := same_new (o := .tup [.ref m8, .ref pl]) n10
  refine a_gtup upd_same rfl ?_
  have s6t := s7.trans (s8.trans (s9.trans s10))
  have hm10 : LenAt (upd H9 t10 (.tup [.ref m8, .ref pl])) m8 _ := s10 _ _ (s9 _ _ hm8)
  have hpl10 := s10 _ _ h9
  have nplB : pl ≠ bk := by
    rintro rfl
    obtain ⟨kvs, e, _⟩ := hbk
    rw [s8 _ _ (s7 _ _ e)] at npl; cases npl
  have nplM : m8 ≠ pl := by rintro rfl; rw [show H8 m8 = _ from hm8] at npl; cases npl
  have hbk10 := hbk.same s6t
  have s010 := s06.trans s6t
  have hlt10 := s6t _ _ hlt6
  have npl0 : H pl = none := by
    cases g : H pl with
    | none => rfl
    | some u => rw [s8 _ _ (s7 _ _ (s06 _ _ g))] at npl; cases npl
  have nbk0 : H bk = none := by
    cases g : H bk with
    | none => rfl
    | some u => rw [sF _ _ g] at nbk; cases nbk
  generalize upd H9 t10 (.tup [.ref m8, .ref pl]) = H10 at *
  walk_at "aa"
  refine a_ixT (s010 _ _ w1) rfl ?_
  refine ⟨r, rfl, ⟨_, SqT.of (s010 _ _ w2)⟩, ?_⟩
  have dr : ∀ b xs, H10 b = some (.tup xs) → drop pl H10 b = some (.tup xs) := fun b xs e => by rw [drop_ne (by rintro rfl; rw [hpl10] at e; cases e)]; exact e
  refine for_go (F := drop pl H10) (it_tup (dr _ _ (s010 _ _ w2))) (fun i σ H' => (Same (drop pl H10) H' ∧ PlainN H' pl bk R (R.take i)) ∧ ∃ q5, σ = [some (.ref wd), some (.str l.a), some (.str l.b), some (.ref lt), some (.ref bk), q5, none, some (.ref m8), some (.ref pl), none, none, none]) ⟨⟨drop_le, _, DK.newD hpl10, fun d h => by simp at h⟩, _, rfl⟩ (fun _ _ _ h => h.1.1) (fun _ _ _ _ s h => ⟨⟨h.1.1.trans s, h.1.2.same s⟩, h.2⟩) ?_ ?_
  · rintro i x σ H11 hi ⟨⟨g1, g2⟩, q5, rfl⟩ hx
    rw [List.getElem?_map] at hx
    obtain ⟨d, e1, rfl⟩ := Option.map_eq_some_iff.mp hx
    have hd := List.mem_of_getElem? e1
    walk_at "aa"
    refine a_ixT (g1 _ _ (dr _ _ (s010 _ _ w1))) rfl ?_
    walk_at "aa"
    refine ⟨r, m8, R, _, d, rfl, g1 _ _ (by rw [drop_ne nplM]; exact hm10), ok1, ok2l, hd, fun q12 H12 f12 n12 s12 h12 => ?_⟩
    walk_at "aa"
    have nq1 : q12 ≠ pl := by
      rintro rfl
      obtain ⟨g, ⟨kvs, e, _⟩, _⟩ := g2
      rw [e] at n12; cases n12
    have nq2 : q12 ≠ bk := by
      rintro rfl
      obtain ⟨kvs, e, _⟩ := hbk10
      rw [g1 _ _ (show drop pl H10 q12 = _ by rw [drop_ne nplB.symm]; exact e)] at n12; cases n12
    refine plain_put (g2.same s12) hd h8 nq1 nq2 h12 fun kvs hk => ?_
    refine ⟨⟨same_mut (g1.trans s12) drop_same, ?_⟩, _, rfl⟩
    rw [List.take_succ, e1]
    exact hk
  rintro σ H11 ⟨⟨g1, g2⟩, q5, rfl⟩
  rw [List.take_of_length_le (by simp)] at g2
  have hbk11 : DK H11 bk bookKeys fb := by
    obtain ⟨kvs, e, rr⟩ := hbk10
    exact ⟨kvs, g1 _ _ (by rw [drop_ne nplB.symm]; exact e), rr⟩
  have hlt11 := g1 _ _ (dr _ _ hlt10)
  have w1a := g1 _ _ (dr _ _ (s010 _ _ w1))
  have w2a := g1 _ _ (dr _ _ (s010 _ _ w2))
  have s011 : Same H H11 := fun b o e => g1 _ _ (by rw [drop_ne (ne_of_none e npl0)]; exact s010 _ _ e)
  walk_at "aa"
  refine a_ixT hlt11 rfl ?_
  walk_at "aa"
  refine a_ixT hlt11 rfl ?_
  walk_at "aa"
  refine ⟨by show 2 ≤ sizeLine; decide, fun t12 n12 => ?_⟩
  have eL : V.int (1 - if l.bk < l.th then l.bk else l.th) = V.int (leastOf l) := by
    unfold leastOf
    congr 1
    split <;> split <;> omega
  rw [eL]
  have s12 := same_new (o := .tup [.ref pl, .int (leastOf l)]) n12
  refine a_gtup upd_same rfl ?_
  refine a_gcons ?_
  refine a_gsub ?_
  walk_at "aa"
  have hb12 := hbk11.same s12
  have p12 := g2.same s12
  have s012 := s011.trans s12
  have tt : Tsm H11 (upd H11 t12 (.tup [.ref pl, .int (leastOf l)])) := tsS s12
  generalize upd H11 t12 (.tup [.ref pl, .int (leastOf l)]) = H12 at *
  refine dk_set hb12 (by decide +kernel) (by decide) fun kvs13 h13 => ?_
  have s013 : Same H (upd H12 bk (.dK kvs13)) := same_mut s012 nbk0
  have p13 := PlainN.book (o := .dK kvs13) nplB p12
  have tt : Tsm H11 (upd H12 bk (.dK kvs13)) := tt.trans fun b xs e => by rw [upd_ne (by rintro rfl; obtain ⟨_, e', _⟩ := hb12; rw [e'] at e; cases e)]; exact e
  generalize upd H12 bk (.dK kvs13) = H13 at *
  refine a_gcons ?_
  refine a_gsub ?_
  walk_at "aa"
  refine dk_set h13 (by decide +kernel) (by decide) fun kvs14 h14 => ?_
  have s014 : Same H (upd H13 bk (.dK kvs14)) := same_mut s013 nbk0
  have p14 := PlainN.book (o := .dK kvs14) nplB p13
  have tt : Tsm H11 (upd H13 bk (.dK kvs14)) := tt.trans fun b xs e => by rw [upd_ne (by rintro rfl; obtain ⟨_, e', _⟩ := h13; rw [e'] at e; cases e)]; exact e
  generalize upd H13 bk (.dK kvs14) = H14 at *
  walk_at "aa"
  refine ⟨by show 0 ≤ sizeLine; decide, fun sm nsm => ?_⟩
  have s15 := same_new (o := .lst []) nsm
  have hsm : upd H14 sm (.lst []) sm = some (.lst []) := upd_same
  have h15 := h14.same s15
  have p15 := p14.out.same s15
  have s015 := s014.trans s15
  have tt := tt.trans (tsS s15)
  have nsmB : sm ≠ bk := by rintro rfl; obtain ⟨_, e', _⟩ := h14; rw [e'] at nsm; cases nsm
  have nsm0 : H sm = none := by
    cases g : H sm with
    | none => rfl
    | some u => rw [s014 _ _ g] at nsm; cases nsm
  have hlt15 := tt _ _ hlt11
  have w15 := tt _ _ w1a
  have w25 := tt _ _ w2a
  have p15d : PlainW (drop sm (upd H14 sm (.lst []))) pl R R := by
    obtain ⟨g, ⟨kvs, e, rr⟩, gg⟩ := p14
    have up : ∀ b o, H14 b = some o → drop sm (upd H14 sm (.lst [])) b = some o := fun b o e => by
      have ne := ne_of_none e nsm
      rw [drop_ne ne, upd_ne ne]; exact e
    refine ⟨g, ⟨kvs, up _ _ e, rr⟩, fun d hd => ?_⟩
    obtain ⟨q, f, _, _, e3, kv, e4, rr2⟩ := gg d hd
    exact ⟨q, f, e3, kv, up _ _ e4, rr2⟩
  generalize upd H14 sm (.lst []) = H15 at *
  walk_at "aa"
  refine a_ixT w15 rfl ?_
  refine ⟨r, rfl, ⟨_, SqT.of w25⟩, ?_⟩
  have dr : ∀ b xs, H15 b = some (.tup xs) → drop sm H15 b = some (.tup xs) := fun b xs e => by rw [drop_ne (by rintro rfl; rw [hsm] at e; cases e)]; exact e
  refine for_go (F := drop sm H15) (it_tup (dr _ _ w25)) (fun i σ H' => (Same (drop sm H15) H' ∧ ∃ os : List (Option Int), H' sm = some (.lst (os.map oV)) ∧ os.length ≤ 8 * i) ∧ ∃ q5, σ = [some (.ref wd), some (.str l.a), some (.str l.b), some (.ref lt), some (.ref bk), q5, some (.ref sm), some (.ref m8), some (.ref pl), none, none, none]) ⟨⟨drop_le, [], hsm, by simp⟩, _, rfl⟩ (fun _ _ _ h => h.1.1) (fun _ _ _ _ s h => ⟨⟨h.1.1.trans s, by obtain ⟨os, e1, e2⟩ := h.1.2; exact ⟨os, s _ _ e1, e2⟩⟩, h.2⟩) ?_ ?_
  · rintro i x σ H16 hi ⟨⟨g1, os, e2, e3⟩, q5, rfl⟩ hx
    rw [List.getElem?_map] at hx
    obtain ⟨d, e1, rfl⟩ := Option.map_eq_some_iff.mp hx
    have hd := List.mem_of_getElem? e1
    walk_at "aa"
    refine ⟨ty_lst e2, ?_⟩
    walk_at "aa"
    refine a_ixT (g1 _ _ (dr _ _ w15)) rfl ?_
    refine ⟨r, rfl, ⟨_, SqT.of (g1 _ _ (dr _ _ w25))⟩, fun D nD => ?_⟩
    refine lc_go (it_tup (g1 _ _ (dr _ _ w25))) (Same.refl H16) nD (fun i acc _ => ∃ ps : List (Option Int), acc = ps.map oV) ⟨[], rfl⟩ (fun _ _ _ _ _ r => r) ?_ ?_
    · rintro j acc H17 v hj sF17 hD17 lc ⟨ps, rfl⟩ hv
      rw [List.getElem?_map] at hv
      obtain ⟨x, e4, rfl⟩ := Option.map_eq_some_iff.mp hv
      walk_at "aa"
      refine ⟨rfl, ?_⟩
      walk_at "aa"
      refine ⟨pl, lt, R, l, x, d, rfl, p15d.same (g1.trans sF17), sF17 _ _ (g1 _ _ (dr _ _ hlt15)), ol.ra, ol.rb, hd, fun H18 o s18 => ?_⟩
      exact lc_put (by simp at hj; omega) nD (fun _ _ _ _ _ r => r) (sF17.trans s18) (s18 _ _ hD17) lc ⟨ps ++ [o], by simp⟩
    · rintro acc H17 sF17 hD17 lc ⟨ps, rfl⟩
      have lps : ps.length ≤ 8 := by simp at lc; omega
      have hi8 : i < 8 := by simp at hi; omega
      walk_at "aa"
      refine ⟨sm, D, _, _, rfl, rfl, sF17 _ _ e2, hD17, ?_, ?_⟩
      · rw [List.length_map, List.length_map]
        exact Nat.le_trans (show _ ≤ 80 by omega) (by decide)
      walk_at "aa"
      refine ⟨⟨same_mut (g1.trans sF17) drop_same, os ++ ps, ?_, by simp; omega⟩, _, rfl⟩
      rw [upd_same, List.map_append]
  rintro σ H16 ⟨⟨g1, os, e2, e3⟩, q5, rfl⟩
  have los : os.length ≤ 64 := by simp at e3; omega
  have s016 : Same H H16 := fun b o e => g1 _ _ (by rw [drop_ne (ne_of_none e nsm0)]; exact s015 _ _ e)
  obtain ⟨f16, h16, l16⟩ : ∃ f, DK H16 bk bookKeys f ∧ f "least" = some (.int (leastOf l)) := by
    obtain ⟨kvs, e, rr⟩ := h15
    exact ⟨_, ⟨kvs, g1 _ _ (by rw [drop_ne nsmB.symm]; exact e), rr⟩, if_pos rfl⟩
  walk_at "aa"
  refine ⟨sm, rfl, ⟨_, SqL.of e2⟩, fun D nD => ?_⟩
  refine lc_go (it_list e2) (Same.refl H16) nD (fun i acc _ => ∃ ns : List Int, acc = ns.map V.int) ⟨[], rfl⟩ (fun _ _ _ _ _ r => r) ?_ ?_
  · rintro i acc H17 v hi sF17 hD17 lc ⟨ns, rfl⟩ hv
    rw [List.getElem?_map] at hv
    obtain ⟨o, e4, rfl⟩ := Option.map_eq_some_iff.mp hv
    have hi64 : i < 64 := by rw [List.length_map] at hi; omega
    walk_at "aa"
    refine ⟨rfl, ?_⟩
    cases o with
    | none =>
      walk_at "aa"
      refine iteYN rfl ?_
      exact lc_skip sF17 hD17 lc ⟨ns, rfl⟩
    | some z =>
      walk_at "aa"
      refine iteZN (fun h => nomatch h) ?_
      walk_at "aa"
      exact lc_put (by omega) nD (fun _ _ _ _ _ r => r) sF17 hD17 lc ⟨ns ++ [z], by simp⟩
  · rintro acc H17 sF17 hD17 lc ⟨ns, rfl⟩
    have lns : ns.length ≤ 64 := by rw [List.length_map, List.length_map] at lc; omega
    refine a_srtI hD17 (by omega) fun zs p18 H18 asc mem n18 s18 h18 => ?_
    walk_at "aa"
    have hb18 := h16.same (sF17.trans s18)
    refine dk_put hb18 (by decide +kernel) (by decide) fun kvs19 h19 => ?_
    have ne18 : p18 ≠ bk := by rintro rfl; obtain ⟨_, e', _⟩ := hb18; rw [h18] at e'; cases e'
    walk_at "aa"
    have nP : p18 ≠ pp := by rintro rfl; rw [sF17 _ _ (s016 _ _ hpp)] at n18; cases n18
    have nB : bk ≠ pp := by rintro rfl; rw [hpp] at nbk0; cases nbk0
    refine k bk _ zs (same_mut (s016.trans (sF17.trans s18)) nbk0) ⟨_, p18, h19, ?_, if_pos rfl, by rw [upd_ne ne18]; exact h18, nP, nB⟩ (Nat.le_trans (sorted_len asc mem) lns)
    show (if ("least" : Str) = "points" then _ else f16 "least") = _
    rw [if_neg (by decide +kernel), l16]
end QB
set_option Elab.async false
set_option linter.all false
set_option maxRecDepth 100000
set_option maxHeartbeats 4000000

set_option pp.deepTerms false
set_option pp.deepTerms.threshold 10
namespace QB
open PySem PySem.Spec L2
open PyProof.Rows (envOfC)
open PySem.PyData (strOk)
open RZ (Ty4 rIsTy call_isTy pi_zipA iZipA ItzT for_zipT for_zipL)
open StX (tStar pa_star)
open QS (SrtR tSrt rSrtI rSrtS rSrtT)
open QT (AllQ Ole Olt)
local macro_rules | `(tactic| walk_at "hp") => `(tactic| first | assumption | exact upd_same | (refine sg (by assumption) ?_; walk_at "hp"))
local macro_rules | `(tactic| walk_at "a") => `(tactic| first
  | with_reducible refine a_seq ?_ | with_reducible refine a_asg ?_ | with_reducible refine a_drop ?_ | with_reducible refine a_ret ?_ | with_reducible refine a_retN ?_
  | with_reducible refine a_ifS ?_ | with_reducible refine a_next ?_ | with_reducible refine a_gname ?_ | with_reducible refine a_nx ?_ | with_reducible refine a_rt ?_ | with_reducible refine a_bk ?_ | with_reducible refine a_ct ?_
  | ((with_reducible show tVar _ _ _ _); refine a_var rfl ?_) | with_reducible refine a_c ?_ | with_reducible refine a_op ?_ | with_reducible refine a_un ?_ | with_reducible refine a_cb ?_ | with_reducible refine a_nil ?_ | with_reducible refine a_cons ?_
  | with_reducible refine a_call ?_ | with_reducible refine a_meth ?_ | with_reducible refine a_make ?_ | with_reducible refine a_test ?_ | with_reducible refine a_tTest ?_ | with_reducible refine a_tand ?_ | with_reducible refine a_tor ?_ | with_reducible refine a_tnot ?_
  | with_reducible refine a_and ?_ | with_reducible refine a_or ?_ | with_reducible refine a_not ?_ | with_reducible refine a_if ?_ | with_reducible refine a_ri0 ?_ | with_reducible refine a_tup ?_ | with_reducible refine a_lst ?_
  | with_reducible refine a_bl ?_ | with_reducible refine a_sfld ?_ | with_reducible refine a_exI ?_ | with_reducible refine a_exZ ?_ | with_reducible refine a_chain ?_ | with_reducible refine a_lc ?_ | with_reducible refine a_yes ?_ | with_reducible refine a_gcons ?_ | with_reducible refine a_gnil ?_ | with_reducible refine w_list ?_ | with_reducible refine w_tup ?_ | with_reducible refine w_str ?_ | with_reducible refine w_rng1 ?_ | with_reducible refine w_zip ?_ | with_reducible refine w_zipA ?_
  | with_reducible refine a_tFld ?_ | with_reducible refine a_dget ?_ | with_reducible refine a_din ?_ | with_reducible refine a_dnin ?_ | with_reducible refine a_sl ?_ | with_reducible refine a_slNone ?_ | with_reducible refine a_slSome ?_
  | with_reducible refine a_isN ?_ | with_reducible refine a_notN ?_ | with_reducible refine a_eqI ?_ | with_reducible refine a_neI ?_ | with_reducible refine a_eqZ ?_ | with_reducible refine a_neZ ?_ | with_reducible refine a_ltZ ?_ | with_reducible refine a_int ?_ | with_reducible refine a_intB ?_ | with_reducible refine a_abs ?_ | with_reducible refine a_max2 ?_ | with_reducible refine a_min2 ?_ | with_reducible refine a_bm ?_
  | ((with_reducible show rLenQ _ _ _ _); first | refine a_lenT (by walk_at "hp") ?_ | refine a_lenL (by walk_at "hp") ?_)
  | with_reducible refine a_prsC ?_ | with_reducible refine a_prsN ?_ | with_reducible refine a_for ?_ | with_reducible refine a_dput ?_ | with_reducible refine w_keys ?_ | with_reducible refine w_listT ?_
  | with_reducible refine QB.a_rU ?_ | with_reducible refine QB.a_cKw ?_ | with_reducible refine QB.a_star ?_ | with_reducible refine QB.a_dget2 ?_
  | with_reducible refine QB.a_par ?_ | with_reducible refine QB.a_par3 ?_
  | with_reducible refine QB.a_srt ?_
  | with_reducible refine QB.a_dc ?_
  | with_reducible refine iteT ?_ | with_reducible refine iteNT ?_ | with_reducible refine iteNF ?_ | with_reducible refine iteF ?_ | with_reducible refine a_prop ?_)
local macro_rules | `(tactic| walk_at "aa") => `(tactic| (walk_at "a"; repeat walk_at "a"))

variable {P : Program} {w : World} {K : PySem.W.Frag} {mg : Str → Option Value} {base : Heap} {CN CC : Addr}
theorem at_lastI : ∀ {ns : List Int}, ns ≠ [] → ∃ z ∈ ns, atI (ns.map V.int) (-1) = some (.int z) ∧ ∀ y ∈ ns, ns.Pairwise (· < ·) → y ≤ z := fun {ns} h => by
  obtain ⟨xs, z, rfl⟩ : ∃ xs z, ns = xs ++ [z] := ⟨ns.dropLast, ns.getLast h, (List.dropLast_concat_getLast h).symm⟩
  refine ⟨z, by simp, by rw [List.map_append]; exact at_last _ _, fun y hy pw => ?_⟩
  rcases List.mem_append.mp hy with hy | hy
  · have := (List.pairwise_append.mp pw).2.2 y hy z (by simp)
    omega
  · rw [List.mem_singleton.mp hy]; exact Int.le_refl _
def spTimes : Sp := fun vs H Q _ => ∃ (bk pp : Addr) (lo : Int) (pts : List Int), vs = [.ref bk] ∧ BookAt H bk lo pts pp ∧ pts.length ≤ 64 ∧ ∀ (p : Addr) (H' : Hp) (zs : List Int), H p = none → Same H H' → H' p = some (.lst (zs.map V.int)) → zs.length ≤ 200 → (∀ z ∈ zs, lo ≤ z) → lo ∈ zs → Q (.ref p) H'
abbrev N__law_times : List Str := ["_law_book_here", "_law_found", "_law_at", "_law_t"]
theorem sc__law_times : FnScope N__law_times ["_law_book_here"] (defScope QH.s__law_times) := ⟨rfl, rfl, rfl, by decide +kernel, rfl, by decide +kernel, by decide +kernel⟩
theorem D_law_times (T : Tx P w K mg base CN CC) (F : FunAt K mg "_law_times" QH.s__law_times) : DefOk P w K mg base "_law_times" ["_law_book_here"] spTimes 1 := by
  refine mk_def F sc__law_times (fun _ _ _ _ _ _ us hl => match us, hl with | [_], _ => rfl) (fun vs H Q E h => by obtain ⟨bk, pp, lo, pts, rfl, _⟩ := h; rfl) (fun f cdv A outer s0 H vs Q E hr h => ?_)
  have nd := sc__law_times.nd
  obtain ⟨bk, pp, lo, pts, rfl, ⟨fb, q, hb, e1, e2, hq, qp, bp⟩, l64, k⟩ := h
  refine ⟨_, (pss_cons (ps_set (i := 1) nd rfl (by first | exact Or.inl rfl | exact Or.inr rfl) (pe_lst (pa_cons (pe_dget (hu_of hr) (pv 0) pe_str (fun _ _ => rfl)) (pa_cons (pe_op op_add (pe_dget (hu_of hr) (pv 0) pe_str (fun _ _ => rfl)) pe_int) pa_nil))))
    (pss_cons (ps_for PassesOwn.never rfl (ki_plist (K := K) (pe_dget (hu_of hr) (pv 0) pe_str (fun _ _ => rfl))) (pg_name (i := 2) nd rfl (by first | exact Or.inl rfl | exact Or.inr rfl)) (pss_one (ps_expr (pe_bm PySem.F.plainAttrs_list PySem.F.slot_list_extend PySem.F.type_list_extend mt_extend (pv 1) (pa_cons (pe_lc (own := [("_law_t", 3)]) (g := (gName 3)) rfl nd (ki_ptup (K := K) (pe_tup (pa_cons (pe_op op_sub (pv 2) pe_int) (pa_cons (pv 2) (pa_cons (pe_op op_add (pv 2) pe_int) pa_nil))))) (blkOk_by (by with_unfolding_all rfl)) (fun _ _ _ _ _ => (pg_name (i := 3) nd rfl (by first | exact Or.inl rfl | exact Or.inr rfl))) (fun _ _ _ _ _ => (pts_one (pt_cmpR op_ge (pv 3) (pe_dget (hu_of hr) (pv 0) pe_str (fun _ _ => rfl)) (nomark _)))) (fun _ _ _ _ _ => (pv 3))) pa_nil)))))
    (pss_one (ps_ret (QS.pe_srt (ki_srtI (K := K) rfl (hu65 hr)) (by rfl) T.f_sorted (by rfl) T.f_set (pv 1)))))), ?_⟩
  walk_at "aa"
  refine ⟨bk, _, rfl, dk_ds hb e1, ?_⟩
  walk_at "aa"
  refine ⟨bk, _, rfl, dk_ds hb e1, ?_⟩
  walk_at "aa"
  refine ⟨by show 2 ≤ sizeLine; decide, fun sm nsm => ?_⟩
  have s1 := same_new (o := .lst [.int lo, .int (lo + 1)]) nsm
  have hsm : upd H sm (.lst [.int lo, .int (lo + 1)]) sm = some (.lst [.int lo, .int (lo + 1)]) := upd_same
  have hbD : DK (drop sm (upd H sm (.lst [.int lo, .int (lo + 1)]))) bk bookKeys fb := by
    obtain ⟨kvs, e, rr⟩ := hb
    have ne := ne_of_none e nsm
    exact ⟨kvs, by rw [drop_ne ne, upd_ne ne]; exact e, rr⟩
  have hqD : drop sm (upd H sm (.lst [.int lo, .int (lo + 1)])) q = some (.lst (pts.map V.int)) := by
    have ne := ne_of_none hq nsm
    rw [drop_ne ne, upd_ne ne]; exact hq
  have sD : Same H (drop sm (upd H sm (.lst [.int lo, .int (lo + 1)]))) := fun b o e => by
    have ne := ne_of_none e nsm
    rw [drop_ne ne, upd_ne ne]; exact e
  generalize upd H sm (.lst [.int lo, .int (lo + 1)]) = H1 at *
  walk_at "aa"
  refine ⟨bk, _, rfl, dk_ds (hb.same s1) e2, ?_⟩
  refine ⟨q, rfl, ⟨_, SqL.of (s1 _ _ hq)⟩, ?_⟩
  refine for_go (F := drop sm H1) (it_list hqD) (fun i σ H' => (Same (drop sm H1) H' ∧ ∃ ns : List Int, H' sm = some (.lst (ns.map V.int)) ∧ ns.length ≤ 2 + 3 * i ∧ (∀ n ∈ ns, lo ≤ n) ∧ lo ∈ ns) ∧ ∃ q2, σ = [some (.ref bk), some (.ref sm), q2, none]) ⟨⟨drop_le, [lo, lo + 1], hsm, by simp, fun n hn => by simp at hn; omega, by simp⟩, _, rfl⟩ (fun _ _ _ h => h.1.1) (fun _ _ _ _ s h => ⟨⟨h.1.1.trans s, by obtain ⟨ns, e1, e2⟩ := h.1.2; exact ⟨ns, s _ _ e1, e2⟩⟩, h.2⟩) ?_ ?_
  · rintro i x σ H2 hi ⟨⟨g1, ns, f1, f2, f3, f4⟩, q2, rfl⟩ hx
    rw [List.getElem?_map] at hx
    obtain ⟨a, ea, rfl⟩ := Option.map_eq_some_iff.mp hx
    walk_at "aa"
    refine ⟨ty_lst f1, ?_⟩
    walk_at "aa"
    refine ⟨by show 3 ≤ sizeLine; decide, fun t3 n3 => ?_⟩
    have s3 := same_new (o := .tup [.int (a - 1), .int a, .int (a + 1)]) n3
    have h3 : upd H2 t3 (.tup [.int (a - 1), .int a, .int (a + 1)]) t3 = some (.tup ([a - 1, a, a + 1].map V.int)) := upd_same
    have g3 := g1.trans s3
    have f13 := s3 _ _ f1
    generalize upd H2 t3 (.tup [.int (a - 1), .int a, .int (a + 1)]) = H3 at *
    refine ⟨t3, rfl, ⟨_, SqT.of h3⟩, fun D nD => ?_⟩
    refine lc_go (it_tup h3) (Same.refl H3) nD (fun i acc _ => ∃ ms : List Int, acc = ms.map V.int ∧ ∀ n ∈ ms, lo ≤ n) ⟨[], rfl, fun _ h => nomatch h⟩ (fun _ _ _ _ _ r => r) ?_ ?_
    · rintro j acc H4 v hj sF hD lc ⟨ms, rfl, hms⟩ hv
      rw [List.getElem?_map] at hv
      obtain ⟨t, et, rfl⟩ := Option.map_eq_some_iff.mp hv
      walk_at "aa"
      refine ⟨rfl, ?_⟩
      walk_at "aa"
      refine ⟨bk, _, rfl, dk_ds (hbD.same (g3.trans sF)) e1, ?_⟩
      walk_at "aa"
      refine iteD (fun c => ?_) (fun c => ?_)
      · walk_at "aa"
        refine lc_put (by simp at hj; omega) nD (fun _ _ _ _ _ r => r) sF hD lc ⟨ms ++ [t], by simp, fun n hn => ?_⟩
        rcases List.mem_append.mp hn with hn | hn
        · exact hms n hn
        · rw [List.mem_singleton.mp hn]; exact c
      · exact lc_skip sF hD lc ⟨ms, rfl, hms⟩
    · rintro acc H4 sF hD lc ⟨ms, rfl, hms⟩
      have lms : ms.length ≤ 3 := by simpa using lc
      have hi64 : i < 64 := by rw [List.length_map] at hi; omega
      walk_at "aa"
      refine ⟨sm, D, _, _, rfl, rfl, sF _ _ f13, hD, ?_, ?_⟩
      · rw [List.length_map, List.length_map]
        exact Nat.le_trans (show _ ≤ 200 by omega) (by decide)
      walk_at "aa"
      refine ⟨⟨same_mut (g3.trans sF) drop_same, ns ++ ms, ?_, by simp; omega, fun n hn => ?_, List.mem_append.mpr (.inl f4)⟩, _, rfl⟩
      · rw [upd_same, List.map_append]
      · rcases List.mem_append.mp hn with hn | hn
        · exact f3 n hn
        · exact hms n hn
  · rintro σ H2 ⟨⟨g1, ns, f1, f2, f3, f4⟩, q2, rfl⟩
    have lns : ns.length ≤ 194 := by rw [List.length_map] at f2; omega
    walk_at "aa"
    refine a_srtI f1 (by omega) fun zs p3 H3 asc mem n3 s3 h3 => ?_
    refine k p3 H3 zs ?_ ((sD.trans g1).trans s3) h3 (by have := sorted_len asc mem; omega) (fun z hz => f3 z ((mem z).mp hz)) ((mem lo).mpr f4)
    cases g : H p3 with
    | none => rfl
    | some u => rw [(sD.trans g1) _ _ g] at n3; cases n3
def spShift : Sp := fun vs H Q _ => ∃ (p bk : Addr) (c : Nat) (lo : Int) (pts : List Int), vs = [.ref p, .ref bk] ∧ PotAt H p c ∧ c ≤ 400000 ∧ BookAt H bk lo pts p ∧ pts.length ≤ 64 ∧ ∀ (z : Int) (H' : Hp), lo ≤ z → But p H H' → PotAt H' p (c + 2) → Q (.int z) H'
abbrev N__law_shift : List Str := ["_law_pot_here", "_law_book_here", "_law_some", "_law_t"]
theorem sc__law_shift : FnScope N__law_shift ["_law_pot_here", "_law_book_here"] (defScope QH.s__law_shift) := ⟨rfl, rfl, rfl, by decide +kernel, rfl, by decide +kernel, by decide +kernel⟩
theorem D_law_shift (T : Tx P w K mg base CN CC) (F : FunAt K mg "_law_shift" QH.s__law_shift) (D_law_times : DefOk P w K mg base "_law_times" ["_law_book_here"] spTimes 1) (D_law_take : DefOk P w K mg base "_law_take" ["_law_pot_here", "_law_upto"] spTake 1) (D_law_of : DefOk P w K mg base "_law_of" ["_law_pot_here", "_law_some"] spOf 2) : DefOk P w K mg base "_law_shift" ["_law_pot_here", "_law_book_here"] spShift 3 := by
  refine mk_def F sc__law_shift (fun _ _ _ _ _ _ us hl => match us, hl with | [_, _], _ => rfl) (fun vs H Q E h => by obtain ⟨p, bk, c, lo, pts, rfl, _⟩ := h; rfl) (fun f cdv A outer s0 H vs Q E hr h => ?_)
  have nd := sc__law_shift.nd
  obtain ⟨p, bk, c, lo, pts, rfl, hp, hc, hbk, l64, k⟩ := h
  refine ⟨_, (pss_cons (ps_set (i := 2) nd rfl (by first | exact Or.inl rfl | exact Or.inr rfl) (pe_op op_cat (pe_callD D_law_times (hr.mono (by decide)) (by rfl) (pa_cons (pv 1) pa_nil)) (pe_lst (pa_cons pe_int (pa_cons (pe_ifExp (pt_cmpR (ki_neD (K := K) hr.units) (pe_dget (hu_of hr) (pv 1) pe_str (fun _ _ => rfl)) (pe_lst pa_nil) (nomark _)) (pe_op op_add (pe_op op_add (pe_ix (ki_ixL (K := K)) (pe_dget (hu_of hr) (pv 1) pe_str (fun _ _ => rfl)) (pe_un un_neg pe_int) (fun _ _ => rfl)) pe_int) (pe_callD D_law_take (hr.mono (by decide)) (by rfl) (pa_cons (pv 0) (pa_cons pe_int pa_nil)))) pe_int) pa_nil)))))
    (pss_one (ps_ret (pe_callD D_law_of (hr.mono (by decide)) (by rfl) (pa_cons (pv 0) (pa_cons (pe_lc (own := [("_law_t", 3)]) (g := (gName 3)) rfl nd (ki_plist (K := K) (pv 2)) (blkOk_by (by with_unfolding_all rfl)) (fun _ _ _ _ _ => (pg_name (i := 3) nd rfl (by first | exact Or.inl rfl | exact Or.inr rfl))) (fun _ _ _ _ _ => (pts_one (pt_cmpR op_ge (pv 3) (pe_dget (hu_of hr) (pv 1) pe_str (fun _ _ => rfl)) (nomark _)))) (fun _ _ _ _ _ => (pv 3))) pa_nil)))))), ?_⟩
  walk_at "aa"
  refine ⟨bk, p, lo, pts, rfl, hbk, l64, fun t1 H1 zs n1 s1 h1 lzs hzs lozs => ?_⟩
  have hp1 := hp.same s1
  have hbk1 := hbk.same s1
  have t1p := hp.ne n1
  walk_at "aa"
  obtain ⟨fb, q, hb, e1, e2, hq, qp, bp⟩ := id hbk1
  refine ⟨bk, _, rfl, dk_ds hb e2, ?_⟩
  walk_at "aa"
  refine ⟨Nat.zero_le _, fun t2 n2 => ?_⟩
  have s2 := same_new (o := .lst []) n2
  refine a_neNil (s2 _ _ hq) upd_same ?_
  have hp2 := hp1.same s2
  have hbk2 := hbk1.same s2
  have hb2 := hb.same s2
  have hq2 := s2 _ _ hq
  have h12 := s2 _ _ h1
  have b02 : But p H (upd H1 t2 (.lst [])) := But.of (s1.trans s2)
  generalize upd H1 t2 (.lst []) = H2 at *
  refine a_bl ?_
  refine iteDN (fun c1 => ?a) (fun c1 => ?b)
  case' a =>
    walk_at "aa"
    refine ⟨bk, _, rfl, dk_ds hb2 e2, ?_⟩
    walk_at "aa"
    obtain ⟨z, _, ez, _⟩ := at_lastI c1
    refine a_ixL hq2 ez ?_
    walk_at "aa"
    refine ⟨p, 20, c, rfl, hp2, by omega, by decide, by decide, fun j3 H3 _ _ b3 hp3 => ?_⟩
    walk_at "aa"
    refine ⟨by show 2 ≤ sizeLine; decide, fun t4 n4 => ?_⟩
    have s4 := same_new (o := .lst [.int 0, .int (z + 1 + j3)]) n4
    have h4 : upd H3 t4 (.lst [.int 0, .int (z + 1 + j3)]) t4 = some (.lst ([0, z + 1 + j3].map V.int)) := upd_same
    have hp4 := hp3.same s4
    have b4 : But p H (upd H3 t4 (.lst [.int 0, .int (z + 1 + j3)])) := (b02.trans b3).same s4
    have hbk4 := (hbk2.but b3).same s4
    have h14 := s4 _ _ (b3 _ _ t1p h12)
    generalize upd H3 t4 (.lst [.int 0, .int (z + 1 + j3)]) = H4 at *
    obtain ⟨ys, hys, h4⟩ : ∃ ys : List Int, ys.length = 2 ∧ H4 t4 = some (.lst (ys.map V.int)) := ⟨_, rfl, h4⟩
  case' b =>
    walk_at "aa"
    refine ⟨by show 2 ≤ sizeLine; decide, fun t4 n4 => ?_⟩
    have s4 := same_new (o := .lst [.int 0, .int 0]) n4
    have h4 : upd H2 t4 (.lst [.int 0, .int 0]) t4 = some (.lst ([0, 0].map V.int)) := upd_same
    have hp4 : PotAt (upd H2 t4 (.lst [.int 0, .int 0])) p (c + 1) := (hp2.same s4).more (by omega)
    have b4 : But p H (upd H2 t4 (.lst [.int 0, .int 0])) := b02.same s4
    have hbk4 := hbk2.same s4
    have h14 := s4 _ _ h12
    generalize upd H2 t4 (.lst [.int 0, .int 0]) = H4 at *
    obtain ⟨ys, hys, h4⟩ : ∃ ys : List Int, ys.length = 2 ∧ H4 t4 = some (.lst (ys.map V.int)) := ⟨_, rfl, h4⟩
  all_goals
    refine a_cat h14 h4 (by simp; omega) fun t5 H5 n5 s5 h5 => ?_
    rw [← List.map_append] at h5
    have hp5 := hp4.same s5
    have hbk5 := hbk4.same s5
    obtain ⟨fc, qc, hbc, ec1, _⟩ := id hbk5
    walk_at "aa"
    refine ⟨t5, rfl, ⟨_, SqL.of h5⟩, fun D nD => ?_⟩
    refine lc_go (it_list h5) (Same.refl H5) nD (fun i acc _ => ∃ ms : List Int, acc = ms.map V.int ∧ (∀ n ∈ ms, lo ≤ n) ∧ (lo ∈ (zs ++ ys).take i → ms ≠ [])) ⟨[], rfl, (fun _ h => nomatch h), fun h => by simp at h⟩ (fun _ _ _ _ _ r => r) ?_ ?_
    · rintro j acc H6 v hj sF hD lc ⟨ms, rfl, hms, hne⟩ hv
      rw [List.getElem?_map] at hv
      obtain ⟨t, et, rfl⟩ := Option.map_eq_some_iff.mp hv
      walk_at "aa"
      refine ⟨rfl, ?_⟩
      walk_at "aa"
      refine ⟨bk, _, rfl, dk_ds (hbc.same sF) ec1, ?_⟩
      walk_at "aa"
      refine iteD (fun cc => ?_) (fun cc => ?_)
      · walk_at "aa"
        refine lc_put (by simp at hj; omega) nD (fun _ _ _ _ _ r => r) sF hD lc ⟨ms ++ [t], by simp, fun n hn => ?_, fun _ => by simp⟩
        rcases List.mem_append.mp hn with hn | hn
        · exact hms n hn
        · rw [List.mem_singleton.mp hn]; exact cc
      · refine lc_skip sF hD lc ⟨ms, rfl, hms, fun hm => ?_⟩
        rcases (mem_take et).mp hm with hm | hm
        · exact hne hm
        · exact absurd (show lo ≤ t by rw [hm]; exact Int.le_refl _) cc
    · rintro acc H6 sF hD lc ⟨ms, rfl, hms, hne⟩
      rw [List.take_of_length_le (by simp)] at hne
      have hp6 := hp5.same sF
      have hne := hne (List.mem_append.mpr (.inl lozs))
      walk_at "aa"
      refine ⟨p, c + 1, hp6, by omega, .inl ⟨D, _, rfl, hD, hp5.ne nD, by simp [hne], by simp at lc ⊢; omega, fun v H7 hv b7 hp7 => ?_⟩⟩
      obtain ⟨m, hm, rfl⟩ := List.mem_map.mp hv
      exact k m H7 (hms m hm) (fun b o e h => b7 _ _ e (sF _ _ (s5 _ _ (b4 _ _ e h)))) hp7
def spWord (CN : Addr) : Sp := fun vs H Q _ => ∃ (n : Addr) (R : List Str) (ls : List Lnk) (l : Lnk) (s t : Option Int), vs = [.ref n, .str l.a, .str l.b, oV s, oV t] ∧ NetAt CN H n R ls ∧ RoutersOk R ∧ LinksOk R ls ∧ l ∈ ls ∧ (lkOf ls l).Fit s ∧ (lkOf ls l).Fit t ∧ ∀ (x : Str) (H' : Hp), Same H H' → (x = "turns" ↔ ¬ AllQ (lkOf ls l) R s t) → Q (.str x) H'
abbrev N__law_word : List Str := ["_law_net", "_law_a", "_law_b", "_law_t", "_law_other"]
theorem sc__law_word : FnScope N__law_word ["_law_net", "_law_a", "_law_b", "_law_t", "_law_other"] (defScope QH.s__law_word) := ⟨rfl, rfl, rfl, by decide +kernel, rfl, by decide +kernel, by decide +kernel⟩
theorem D_law_word (T : Tx P w K mg base CN CC) (F : FunAt K mg "_law_word" QH.s__law_word) (D_judged : DefOk P w K mg base "judged" ["old", "new"] (spJudged CN) 5) (D_shifted : DefOk P w K mg base "shifted" ["net", "a", "b", "t"] (spShifted CN) 8) : DefOk P w K mg base "_law_word" ["_law_net", "_law_a", "_law_b", "_law_t", "_law_other"] (spWord CN) 9 := by
  refine mk_def F sc__law_word (fun _ _ _ _ _ _ us hl => match us, hl with | [_, _, _, _, _], _ => rfl) (fun vs H Q E h => by obtain ⟨n, R, ls, l, s, t, rfl, _⟩ := h; rfl) (fun f cdv A outer s0 H vs Q E hr h => ?_)
  have nd := sc__law_word.nd
  obtain ⟨n, R, ls, l, s, t, rfl, hn, ok1, ok2, hl, fs, ft, k⟩ := h
  refine ⟨_, (pss_one (ps_ret (pe_ix (ki_ixT (K := K)) (pe_callD D_judged (hr.mono (by decide)) (by rfl) (pa_cons (pe_callD D_shifted (hr.mono (by decide)) (by rfl) (pa_cons (pv 0) (pa_cons (pv 1) (pa_cons (pv 2) (pa_cons (pv 3) pa_nil))))) (pa_cons (pe_callD D_shifted (hr.mono (by decide)) (by rfl) (pa_cons (pv 0) (pa_cons (pv 1) (pa_cons (pv 2) (pa_cons (pv 4) pa_nil))))) pa_nil))) pe_int (fun _ _ => rfl)))), ?_⟩
  walk_at "aa"
  refine ⟨n, R, ls, l, s, rfl, hn, ok1, ok2, hl, fs, fun m1 H1 ms1 s1 hm1 om1 e1 => ?_⟩
  walk_at "aa"
  refine ⟨n, R, ls, l, t, rfl, hn.same s1, ok1, ok2, hl, ft, fun m2 H2 ms2 s2 hm2 om2 e2 => ?_⟩
  walk_at "aa"
  refine ⟨m1, m2, R, ms1, ms2, rfl, hm1.same s2, hm2, ok1, om1, om2, fun H3 t3 x xs s3 h3 iff => ?_⟩
  walk_at "aa"
  refine a_ixT h3 at_z0 (k x H3 (s1.trans (s2.trans s3)) (iff.trans (not_congr ?_)))
  unfold AllQN AllQ
  rw [e1, e2]
end QB
set_option Elab.async false
set_option linter.all false
set_option maxRecDepth 100000
set_option maxHeartbeats 4000000

set_option pp.deepTerms false
set_option pp.deepTerms.threshold 10
namespace QB
open PySem PySem.Spec L2
open PyProof.Rows (envOfC)
open PySem.PyData (strOk)
open RZ (Ty4 rIsTy call_isTy pi_zipA iZipA ItzT for_zipT for_zipL)
open StX (tStar pa_star)
open QS (SrtR tSrt rSrtI rSrtS rSrtT)
open QT (AllQ Ole Olt)
local macro_rules | `(tactic| walk_at "hp") => `(tactic| first | assumption | exact upd_same | (refine sg (by assumption) ?_; walk_at "hp"))
local macro_rules | `(tactic| walk_at "a") => `(tactic| first
  | with_reducible refine a_seq ?_ | with_reducible refine a_asg ?_ | with_reducible refine a_drop ?_ | with_reducible refine a_ret ?_ | with_reducible refine a_retN ?_
  | with_reducible refine a_ifS ?_ | with_reducible refine a_next ?_ | with_reducible refine a_gname ?_ | with_reducible refine a_nx ?_ | with_reducible refine a_rt ?_ | with_reducible refine a_bk ?_ | with_reducible refine a_ct ?_
  | ((with_reducible show tVar _ _ _ _); refine a_var rfl ?_) | with_reducible refine a_c ?_ | with_reducible refine a_op ?_ | with_reducible refine a_un ?_ | with_reducible refine a_cb ?_ | with_reducible refine a_nil ?_ | with_reducible refine a_cons ?_
  | with_reducible refine a_call ?_ | with_reducible refine a_meth ?_ | with_reducible refine a_make ?_ | with_reducible refine a_test ?_ | with_reducible refine a_tTest ?_ | with_reducible refine a_tand ?_ | with_reducible refine a_tor ?_ | with_reducible refine a_tnot ?_
  | with_reducible refine a_and ?_ | with_reducible refine a_or ?_ | with_reducible refine a_not ?_ | with_reducible refine a_if ?_ | with_reducible refine a_ri0 ?_ | with_reducible refine a_tup ?_ | with_reducible refine a_lst ?_
  | with_reducible refine a_bl ?_ | with_reducible refine a_sfld ?_ | with_reducible refine a_exI ?_ | with_reducible refine a_exZ ?_ | with_reducible refine a_chain ?_ | with_reducible refine a_lc ?_ | with_reducible refine a_yes ?_ | with_reducible refine a_gcons ?_ | with_reducible refine a_gnil ?_ | with_reducible refine w_list ?_ | with_reducible refine w_tup ?_ | with_reducible refine w_str ?_ | with_reducible refine w_rng1 ?_ | with_reducible refine w_zip ?_ | with_reducible refine w_zipA ?_
  | with_reducible refine a_tFld ?_ | with_reducible refine a_dget ?_ | with_reducible refine a_din ?_ | with_reducible refine a_dnin ?_ | with_reducible refine a_sl ?_ | with_reducible refine a_slNone ?_ | with_reducible refine a_slSome ?_
  | with_reducible refine a_isN ?_ | with_reducible refine a_notN ?_ | with_reducible refine a_eqI ?_ | with_reducible refine a_neI ?_ | with_reducible refine a_eqZ ?_ | with_reducible refine a_neZ ?_ | with_reducible refine a_ltZ ?_ | with_reducible refine a_int ?_ | with_reducible refine a_intB ?_ | with_reducible refine a_abs ?_ | with_reducible refine a_max2 ?_ | with_reducible refine a_min2 ?_ | with_reducible refine a_bm ?_
  | ((with_reducible show rLenQ _ _ _ _); first | refine a_lenT (by walk_at "hp") ?_ | refine a_lenL (by walk_at "hp") ?_)
  | with_reducible refine a_prsC ?_ | with_reducible refine a_prsN ?_ | with_reducible refine a_for ?_ | with_reducible refine a_dput ?_ | with_reducible refine w_keys ?_ | with_reducible refine w_listT ?_
  | with_reducible refine QB.a_rU ?_ | with_reducible refine QB.a_cKw ?_ | with_reducible refine QB.a_star ?_ | with_reducible refine QB.a_dget2 ?_
  | with_reducible refine QB.a_par ?_ | with_reducible refine QB.a_par3 ?_
  | with_reducible refine QB.a_srt ?_
  | with_reducible refine QB.a_dc ?_
  | with_reducible refine iteT ?_ | with_reducible refine iteNT ?_ | with_reducible refine iteNF ?_ | with_reducible refine iteF ?_ | with_reducible refine a_prop ?_)
local macro_rules | `(tactic| walk_at "aa") => `(tactic| (walk_at "a"; repeat walk_at "a"))

variable {P : Program} {w : World} {K : PySem.W.Frag} {mg : Str → Option Value} {base : Heap} {CN CC : Addr}
theorem NetAt.pot {H H' : Hp} {p n : Addr} {c : Nat} {R : List Str} {ls : List Lnk} (b : But p H H') (hp : PotAt H p c) (h : NetAt CN H n R ls) : NetAt CN H' n R ls := by
  obtain ⟨dx', r, la, ws, h1, h2, h3, h4⟩ := h.at_
  have nn : n ≠ p := by
    rintro rfl
    obtain ⟨_, e⟩ := hp.some
    rw [h1] at e; cases e
  exact ⟨dx', r, la, ws, b _ _ nn h1, b.tup hp h2, b.tup hp h3, h4.ts (ts_but b hp)⟩
theorem fit_least {ls : List Lnk} {l : Lnk} {z : Int} (h : leastOf l ≤ z) : (lkOf ls l).Fit (some z) := by
  show 1 ≤ l.th + z ∧ 1 ≤ l.bk + z
  unfold leastOf at h
  split at h <;> omega
/-- the steps of a row -/
theorem chain_snoc {α : Type} {S : α → α → Prop} {ys : List α} {t z : α} (h : ∀ (i : Nat) a b, (ys ++ [t])[i]? = some a → (ys ++ [t])[i + 1]? = some b → S a b) (hz : S t z) : ∀ (i : Nat) a b, (ys ++ [t] ++ [z])[i]? = some a → (ys ++ [t] ++ [z])[i + 1]? = some b → S a b := by
  intro i a b ha hb
  by_cases c : i + 1 < (ys ++ [t]).length
  · rw [List.getElem?_append_left (by omega)] at ha
    rw [List.getElem?_append_left c] at hb
    exact h i a b ha hb
  · have hi : i + 1 < (ys ++ [t] ++ [z]).length := (List.getElem?_eq_some_iff.mp hb).1
    simp at hi c
    have e : i = ys.length := by omega
    subst e
    simp at ha hb
    subst ha
    subst hb
    exact hz
theorem path_row {W : QT.Lk Str} {R : List Str} {s : Int} {xs : List Int} {t : Int} (h : Path W R s xs t) : (∃ ys, some s :: xs.map some = ys ++ [some t]) ∧ (∀ (i : Nat) a b, (some s :: xs.map some)[i]? = some a → (some s :: xs.map some)[i + 1]? = some b → AllQ W R a b) ∧ ∀ x ∈ xs, s ≤ x := by
  induction h with
  | nil =>
    refine ⟨⟨[], rfl⟩, fun i a b _ hb => ?_, fun x hx => nomatch hx⟩
    simp at hb
  | @snoc xs t u p lt aq ih =>
    obtain ⟨⟨ys, ey⟩, h2, h3⟩ := ih
    have e : some s :: (xs ++ [u]).map some = ys ++ [some t] ++ [some u] := by rw [← ey]; simp
    refine ⟨⟨ys ++ [some t], e⟩, ?_, fun x hx => ?_⟩
    · rw [e]
      rw [ey] at h2
      exact chain_snoc h2 aq
    · rcases List.mem_append.mp hx with hx | hx
      · exact h3 x hx
      · rw [List.mem_singleton.mp hx]
        have := p.le
        omega
theorem row_steps {W : QT.Lk Str} {R : List Str} {s : Int} {xs : List Int} {g : Option Int} (h : RowOk W R s xs g) : (∀ (i : Nat) a b, (some s :: xs.map some ++ [g])[i]? = some a → (some s :: xs.map some ++ [g])[i + 1]? = some b → AllQ W R a b) ∧ ∀ x ∈ xs, s ≤ x := by
  obtain ⟨t, p, aq⟩ := h
  obtain ⟨⟨ys, ey⟩, h2, h3⟩ := path_row p
  refine ⟨?_, h3⟩
  rw [ey] at h2 ⊢
  exact chain_snoc h2 aq
def spCase : Sp := fun vs H Q _ => ∃ p : Addr, vs = [.ref p] ∧ PotAt H p 0 ∧ ∀ H' : Hp, But p H H' → Q (.bl true) H'
abbrev N__law_case_right : List Str := ["_law_pot_here", "_law_turn", "_law_world_here", "_law_a", "_law_b", "_law_net", "_law_book_here", "_law_some", "_law_low", "_law_high", "_law_outer", "_law_row", "_law_one", "_law_other", "_law_lap"]
theorem sc__law_case_right : FnScope N__law_case_right ["_law_pot_here"] (defScope QH.s__law_case_right) := ⟨rfl, rfl, rfl, by decide +kernel, rfl, by decide +kernel, by decide +kernel⟩
theorem D_law_case_right (T : Tx P w K mg base CN CC) (F : FunAt K mg "_law_case_right" QH.s__law_case_right) (D_law_link_of : DefOk P w K mg base "_law_link_of" ["_law_pot_here", "_law_least", "_law_most", "_law_more"] spLawLink 5) (D_law_made : DefOk P w K mg base "_law_made" ["_law_world_here"] (spMade CN) 7) (D_law_book : DefOk P w K mg base "_law_book" ["_law_world_here", "_law_a", "_law_b"] spBook 2)
    (D_law_shift : DefOk P w K mg base "_law_shift" ["_law_pot_here", "_law_book_here"] spShift 3) (D_law_take : DefOk P w K mg base "_law_take" ["_law_pot_here", "_law_upto"] spTake 1) (D_law_of : DefOk P w K mg base "_law_of" ["_law_pot_here", "_law_some"] spOf 2) (D_law_word : DefOk P w K mg base "_law_word" ["_law_net", "_law_a", "_law_b", "_law_t", "_law_other"] (spWord CN) 9)
    (D_steps : DefOk P w K mg base "steps" ["net", "a", "b", "start", "goal"] (spSteps CN CC) 13) : DefOk P w K mg base "_law_case_right" ["_law_pot_here"] spCase 14 := by
  refine mk_def F sc__law_case_right (fun _ _ _ _ _ _ us hl => match us, hl with | [_], _ => rfl) (fun vs H Q E h => by obtain ⟨p, rfl, _⟩ := h; rfl) (fun f cdv A outer s0 H vs Q E hr h => ?_)
  have nd := sc__law_case_right.nd
  obtain ⟨p, rfl, hp, k⟩ := h
  refine ⟨_, (pss_cons (ps_asg (pe_callD D_law_link_of (hr.mono (by decide)) (by rfl) (pa_cons (pv 0) (pa_cons pe_int (pa_cons pe_int (pa_cons pe_int pa_nil))))) (ki_gtup (K := K) rfl (pgs_cons (pg_name (i := 2) nd rfl (by first | exact Or.inl rfl | exact Or.inr rfl)) (pgs_cons (pg_name (i := 3) nd rfl (by first | exact Or.inl rfl | exact Or.inr rfl)) (pgs_cons (pg_name (i := 4) nd rfl (by first | exact Or.inl rfl | exact Or.inr rfl)) pgs_nil)))))
    (pss_cons (ps_asg (pe_tup (pa_cons (pe_callD D_law_made (hr.mono (by decide)) (by rfl) (pa_cons (pv 2) pa_nil)) (pa_cons (pe_callD D_law_book (hr.mono (by decide)) (by rfl) (pa_cons (pv 2) (pa_cons (pv 3) (pa_cons (pv 4) pa_nil)))) pa_nil))) (ki_gtup (K := K) rfl (pgs_cons (pg_name (i := 5) nd rfl (by first | exact Or.inl rfl | exact Or.inr rfl)) (pgs_cons (pg_name (i := 6) nd rfl (by first | exact Or.inl rfl | exact Or.inr rfl)) pgs_nil))))
    (pss_cons (ps_for PassesOwn.never rfl (pi_range1 (by rfl) T.f_range (pa_cons pe_int pa_nil)) (pg_name (i := 1) nd rfl (by first | exact Or.inl rfl | exact Or.inr rfl)) (pss_cons (ps_set (i := 7) nd rfl (by first | exact Or.inl rfl | exact Or.inr rfl) (QS.pe_srt (ki_srtI (K := K) rfl (hu65 hr)) (by rfl) T.f_sorted (by rfl) T.f_set (pe_lc (own := [("_law_lap", 14)]) (g := (gName 14)) (tt := tYes) rfl nd (pi_range1 (by rfl) T.f_range (pa_cons pe_int pa_nil)) (blkOk_by (by with_unfolding_all rfl)) (fun _ _ _ _ _ => (pg_name (i := 14) nd rfl (by first | exact Or.inl rfl | exact Or.inr rfl))) (fun _ _ _ _ _ => pts_nil) (fun _ _ _ _ _ => (pe_callD D_law_shift (hr.mono (by decide)) (by rfl) (pa_cons (pv 0) (pa_cons (pv 6) pa_nil)))))))
    (pss_cons (ps_par (i := 8) (j := 9) (by rfl) nd rfl rfl (by decide) rfl rfl (pa_cons (pe_ix (ki_ixL (K := K)) (pv 7) pe_int (fun _ _ => rfl)) (pa_cons (pe_callD D_law_of (hr.mono (by decide)) (by rfl) (pa_cons (pv 0) (pa_cons (pe_lst (pa_cons (pe_ix (ki_ixL (K := K)) (pv 7) (pe_un un_neg pe_int) (fun _ _ => rfl)) (pa_cons (pe_op op_add (pe_op op_add (pe_ix (ki_ixL (K := K)) (pv 7) (pe_un un_neg pe_int) (fun _ _ => rfl)) pe_int) (pe_callD D_law_take (hr.mono (by decide)) (by rfl) (pa_cons (pv 0) (pa_cons pe_int pa_nil)))) (pa_cons pe_non pa_nil)))) pa_nil))) pa_nil)) (by rfl))
    (pss_one (ps_if (PW.pt (pw_and (pt_cmpR op_gt (pe_callB (ki_len (K := K)) (by rfl) T.f_len (by decide +kernel) (pa_cons (pv 7) pa_nil)) pe_int (nomark _)) (pw_and1 (pt_cmpR op_ne (pv 8) (pv 9) (nomark _))))) (pss_cons (ps_set (i := 10) nd rfl (by first | exact Or.inl rfl | exact Or.inr rfl) (pe_callD D_law_word (hr.mono (by decide)) (by rfl) (pa_cons (pv 5) (pa_cons (pv 3) (pa_cons (pv 4) (pa_cons (pv 8) (pa_cons (pv 9) pa_nil)))))))
    (pss_cons (ps_for PassesOwn.never rfl (pi_zip (by rfl) T.f_zip (pa_cons (pv 7) (pa_cons (pe_slice (ki_slL (K := K)) (pv 7) (po_some pe_int) po_none) pa_nil))) (ki_gtup (K := K) rfl (pgs_cons (pg_name (i := 12) nd rfl (by first | exact Or.inl rfl | exact Or.inr rfl)) (pgs_cons (pg_name (i := 13) nd rfl (by first | exact Or.inl rfl | exact Or.inr rfl)) pgs_nil))) (pss_one (ps_if (PW.pt (pw_and (pt_cmpR op_eq (pe_callD D_law_word (hr.mono (by decide)) (by rfl) (pa_cons (pv 5) (pa_cons (pv 3) (pa_cons (pv 4) (pa_cons (pv 12) (pa_cons (pv 13) pa_nil)))))) pe_str (nomark _)) (pw_and1 (pt_cmpR op_ne (pv 10) pe_str (nomark _))))) (pss_one (ps_ret pe_bl)) pss_nil)))
    (pss_cons (ps_set (i := 11) nd rfl (by first | exact Or.inl rfl | exact Or.inr rfl) (pe_op op_cat (pe_op op_cat (pe_lst (pa_cons (pv 8) pa_nil)) (pe_callTy (ki_list (K := K)) (by rfl) T.f_list (by decide +kernel) (pa_cons (pe_ix (ki_ixT (K := K)) (pe_callD D_steps (hr.mono (by decide)) (by rfl) (pa_cons (pv 5) (pa_cons (pv 3) (pa_cons (pv 4) (pa_cons (pv 8) (pa_cons (pv 9) pa_nil)))))) pe_int (fun _ _ => rfl)) pa_nil))) (pe_lst (pa_cons (pv 9) pa_nil))))
    (pss_cons (ps_if (pt_cmpR op_ne (pe_cmpR op_eq (pe_callB (ki_len (K := K)) (by rfl) T.f_len (by decide +kernel) (pa_cons (pv 11) pa_nil)) pe_int (nomark _)) (pe_cmpR op_ne (pv 10) pe_str (nomark _)) (nomark _)) (pss_one (ps_ret pe_bl)) pss_nil)
    (pss_one (ps_for PassesOwn.never rfl (pi_zip (by rfl) T.f_zip (pa_cons (pv 11) (pa_cons (pe_slice (ki_slL (K := K)) (pv 11) (po_some pe_int) po_none) pa_nil))) (ki_gtup (K := K) rfl (pgs_cons (pg_name (i := 12) nd rfl (by first | exact Or.inl rfl | exact Or.inr rfl)) (pgs_cons (pg_name (i := 13) nd rfl (by first | exact Or.inl rfl | exact Or.inr rfl)) pgs_nil))) (pss_one (ps_if (pt_cmpR op_eq (pe_callD D_law_word (hr.mono (by decide)) (by rfl) (pa_cons (pv 5) (pa_cons (pv 3) (pa_cons (pv 4) (pa_cons (pv 12) (pa_cons (pv 13) pa_nil)))))) pe_str (nomark _)) (pss_one (ps_ret pe_bl)) pss_nil)))))))) pss_nil)))))
    (pss_one (ps_ret pe_bl))))), ?_⟩
  walk_at "aa"
  refine ⟨p, 0, rfl, hp, by decide, fun t1 n H1 R ls l h1 hw ok1 ok2 hl b1 hp1 => ?_⟩
  refine a_gtup h1 rfl ?_
  walk_at "aa"
  refine ⟨n, R, ls, rfl, hw, ok1, ok2, fun nn H2 s2 hn2 => ?_⟩
  have hp2 := hp1.same s2
  obtain ⟨pxs, epx⟩ := hp2.some
  walk_at "aa"
  refine ⟨n, p, _, R, ls, l, rfl, epx, hw.ts (tsS s2), ok1, ok2, hl, fun bk H3 pts s3 hbk3 l64 => ?_⟩
  walk_at "aa"
  refine ⟨by show 2 ≤ sizeLine; decide, fun t4 n4 => ?_⟩
  have s4 := same_new (o := .tup [.ref nn, .ref bk]) n4
  refine a_gtup upd_same rfl ?_
  have s24 := s3.trans s4
  have hp4 := hp2.same s24
  have hn4 := hn2.same s24
  have hbk4 := hbk3.same s4
  have b4 : But p H (upd H3 t4 (.tup [.ref nn, .ref bk])) := b1.same (s2.trans s24)
  generalize upd H3 t4 (.tup [.ref nn, .ref bk]) = H4 at *
  have lk := lk_ok ok2 hl
  walk_at "aa"
  refine ⟨6, rfl, by decide, by decide, ?_⟩
  refine for_go (F := drop p H4) (it_range 0 _) (fun i σ H' => (Same (drop p H4) H' ∧ PotAt H' p (300 + 30 * i)) ∧ ∃ q1 q7 q8 q9 q10 q11 q12 q13, σ = [some (.ref p), q1, some (.ref n), some (.str l.a), some (.str l.b), some (.ref nn), some (.ref bk), q7, q8, q9, q10, q11, q12, q13, none]) ⟨⟨drop_le, hp4⟩, _, _, _, _, _, _, _, _, rfl⟩ (fun _ _ _ h => h.1.1) (fun _ _ _ _ s h => ⟨⟨h.1.1.trans s, h.1.2.same s⟩, h.2⟩) ?_ ?_
  · rintro i x σ H5 hi ⟨⟨g1, g2⟩, q1, q7, q8, q9, q10, q11, q12, q13, rfl⟩ rfl
    have hi6 : i < 6 := hi
    have b45 : But p H4 H5 := but_same.mpr g1
    have hbk5 := hbk4.but b45
    have hn5 : NetAt CN H5 nn R ls := hn4.pot b45 hp4
    walk_at "aa"
    refine ⟨4, rfl, by decide, by decide, fun D nD => ?_⟩
    have pD : p ≠ D := by
      rintro rfl
      obtain ⟨xs, e⟩ := g2.some
      rw [nD] at e; cases e
    refine lcB_go (F := drop p H5) (n := 4) (it_range 0 4) drop_le nD (fun j acc H' => ∃ ns : List Int, acc = ns.map V.int ∧ ns.length = j ∧ (∀ y ∈ ns, leastOf l ≤ y) ∧ PotAt H' p (300 + 30 * i + 2 * j)) ⟨[], rfl, rfl, (fun _ h => nomatch h), g2⟩ ?_ ?_ ?_
    · rintro j acc Ha Hb b ⟨ns, e1, e2, e3, hpj⟩
      exact ⟨ns, e1, e2, e3, hpj.but b pD⟩
    · rintro j acc H6 x hj sF hD lc ⟨ns, rfl, e2, e3, hpj⟩ rfl
      walk_at "aa"
      refine ⟨rfl, ?_⟩
      walk_at "aa"
      refine ⟨p, bk, _, _, pts, rfl, hpj, by omega, hbk5.but (but_same.mpr sF), l64, fun z H7 hz b7 hp7 => ?_⟩
      have sF7 : Same (drop p H5) H7 := but_same.mp fun b o e h => b7 _ _ e (but_same.mpr sF _ _ e h)
      refine lcB_put (by omega) (drop_none nD) ?_ sF7 (b7 _ _ (Ne.symm pD) hD) lc ⟨ns ++ [z], by simp, by simp [e2], fun y hy => ?_, hp7⟩
      · rintro j acc Ha Hb b ⟨ns, e1, e2, e3, hpj⟩
        exact ⟨ns, e1, e2, e3, hpj.but b pD⟩
      · rcases List.mem_append.mp hy with hy | hy
        · exact e3 y hy
        · rw [List.mem_singleton.mp hy]; exact hz
    rintro acc H6 sF6 hD6 lc ⟨ns, rfl, e2, e3, hp6⟩
    have b56 : But p H5 H6 := but_same.mpr sF6
    refine a_srtI hD6 (by omega) fun zs p7 H7 asc mem n7 s7 h7 => ?_
    have hp7 := hp6.same s7
    have b57 := b56.same s7
    have p7p := hp6.ne n7
    have lzs : zs.length ≤ 4 := by have := sorted_len asc mem; omega
    have zlo : ∀ z ∈ zs, leastOf l ≤ z := fun z hz => e3 z ((mem z).mp hz)
    have zne : zs ≠ [] := by
      rintro rfl
      match ns, e2 with
      | a :: _, _ => exact absurd ((mem a).mpr (by simp)) (by simp)
    obtain ⟨z0, zr, rfl⟩ : ∃ z0 zr, zs = z0 :: zr := by
      cases zs with
      | nil => exact absurd rfl zne
      | cons a b => exact ⟨a, b, rfl⟩
    obtain ⟨zl, hzl, ezl, mzl⟩ := at_lastI zne
    walk_at "aa"
    refine a_ixL h7 at_z0 ?_
    walk_at "aa"
    refine a_ixL h7 ezl ?_
    walk_at "aa"
    refine a_ixL h7 ezl ?_
    walk_at "aa"
    refine ⟨p, 9, _, rfl, hp7, by omega, by decide, by decide, fun j8 H8 j80 j81 b8 hp8 => ?_⟩
    walk_at "aa"
    refine ⟨by show 3 ≤ sizeLine; decide, fun t9 n9 => ?_⟩
    have s9 := same_new (o := .lst [.int zl, .int (zl + 1 + j8), .non]) n9
    refine ⟨p, _, hp8.same s9, by omega, .inl ⟨t9, _, rfl, upd_same, hp8.ne n9, by simp, (by show 3 ≤ 1000; decide), fun v H10 hv b10 hp10 => ?_⟩⟩
    obtain ⟨g, rfl, hg, fg⟩ : ∃ g : Option Int, v = oV g ∧ Ole (some zl) g ∧ (lkOf ls l).Fit g := by
      simp at hv
      have := zlo zl hzl
      rcases hv with rfl | rfl | rfl
      · exact ⟨some zl, rfl, Int.le_refl zl, fit_least this⟩
      · exact ⟨some (zl + 1 + j8), rfl, (show zl ≤ zl + 1 + j8 by omega), fit_least (by omega)⟩
      · exact ⟨none, rfl, trivial, trivial⟩
    have b510 : But p H5 H10 := fun b o e h => b10 _ _ e (s9 _ _ (b8 _ _ e (b57 _ _ e h)))
    have g10 : Same (drop p H4) H10 := but_same.mp (b45.trans b510)
    have h10 := b10 _ _ p7p (s9 _ _ (b8 _ _ p7p h7))
    have hn10 : NetAt CN H10 nn R ls := hn5.pot b510 g2
    have f0 : (lkOf ls l).Fit (some z0) := fit_least (zlo z0 (by simp))
    walk_at "aa"
    refine ⟨_, _, rfl, ?_⟩
    walk_at "aa"
    have nxt : ∀ (Hx : Hp), Same H10 Hx → Same (drop p H4) Hx ∧ PotAt Hx p (300 + 30 * (i + 1)) := fun Hx sx => ⟨g10.trans sx, (hp10.same sx).more (by omega)⟩
    refine iteD (fun c1 => ?_) (fun c1 => ?_)
    rotate_left
    · refine iteF ?_
      walk_at "aa"
      exact ⟨nxt _ (Same.refl _), _, _, _, _, _, _, _, _, rfl⟩
    have lt0 : z0 < zl := by
      cases zr with
      | nil => simp at c1
      | cons y zr =>
        have h1 := mzl y (by simp) asc
        have h2 := List.rel_of_pairwise_cons asc (show y ∈ y :: zr by simp)
        omega
    have olt : Olt (some z0) g := by
      cases g with
      | none => trivial
      | some g =>
        have : zl ≤ g := hg
        show z0 < g
        omega
    have le0 : ∀ z ∈ z0 :: zr, z0 ≤ z := fun z hz => by
      rcases List.mem_cons.mp hz with rfl | hz
      · exact Int.le_refl _
      · exact Int.le_of_lt (List.rel_of_pairwise_cons asc hz)
    have leg : ∀ z ∈ z0 :: zr, Ole (some z) g := fun z hz => by
      have := mzl z hz asc
      cases g with
      | none => trivial
      | some g =>
        have : zl ≤ g := hg
        show z ≤ g
        omega
    have sc : scal (V.int z0) (oV g) = true := by cases g <;> rfl
    have ne0 : ¬ V.int z0 = oV g := by
      cases g with
      | none => intro h; cases h
      | some g =>
        intro h
        injection h with h
        have : z0 < g := olt
        omega
    walk_at "aa"
    refine ⟨sc, ?_⟩
    refine a_bl ?_
    refine iteZN ne0 ?_
    walk_at "aa"
    refine ⟨nn, R, ls, l, some z0, g, rfl, hn10, ok1, ok2, hl, f0, fg, fun x H11 s11 ix => ?_⟩
    walk_at "aa"
    refine a_slL (s11 _ _ h10) fun t12 H12 n12 s12 h12 => ?_
    have h12 : H12 t12 = some (.lst (((z0 :: zr).map V.int).drop 1)) := by rw [cut1] at h12; exact h12
    walk_at "aa"
    have h712 := s12 _ _ (s11 _ _ h10)
    refine ⟨p7, t12, _, _, rfl, SqL.of h712, SqL.of h12, ?_⟩
    refine for_go (F := H12) (it_zipL h712 h12) (fun _ σ H' => Same H12 H' ∧ ∃ q12 q13, σ = [some (.ref p), some (.int (0 + (i : Int))), some (.ref n), some (.str l.a), some (.str l.b), some (.ref nn), some (.ref bk), some (.ref p7), some (.int z0), some (oV g), some (.str x), q11, q12, q13, none]) ⟨Same.refl _, _, _, rfl⟩ (fun _ _ _ h => h.1) (fun _ _ _ _ s h => ⟨h.1.trans s, h.2⟩) ?_ ?_
    · rintro j v σ H13 hj ⟨sF, q12, q13, rfl⟩ ⟨T, u, v', rfl, hT, hu, hv'⟩
      rw [List.getElem?_map] at hu
      obtain ⟨a, ea, rfl⟩ := Option.map_eq_some_iff.mp hu
      rw [← List.map_drop, List.getElem?_map] at hv'
      obtain ⟨b, eb, rfl⟩ := Option.map_eq_some_iff.mp hv'
      have ma := List.mem_of_getElem? ea
      have mb := List.mem_of_mem_drop (List.mem_of_getElem? eb)
      refine a_gtup hT rfl ?_
      walk_at "aa"
      refine ⟨nn, R, ls, l, some a, some b, rfl, hn10.same (s11.trans (s12.trans sF)), ok1, ok2, hl, fit_least (zlo a ma), fit_least (zlo b mb), fun y H14 s14 iy => ?_⟩
      walk_at "aa"
      refine iteD (fun cy => ?_) (fun cy => ?_)
      · have xt : x = "turns" := ix.mpr fun aq => iy.mp cy (AllQ.inner lk f0 (fit_least (zlo a ma)) (fit_least (zlo b mb)) fg (le0 a ma) (leg a ma) (le0 b mb) (leg b mb) aq)
        walk_at "aa"
        refine iteYN xt ?_
        walk_at "aa"
        exact ⟨sF.trans s14, _, _, rfl⟩
      · walk_at "aa"
        exact ⟨sF.trans s14, _, _, rfl⟩
    rintro σ H13 ⟨sF, q12', q13', rfl⟩
    have s1013 := s11.trans (s12.trans sF)
    walk_at "aa"
    refine ⟨by show 1 ≤ sizeLine; decide, fun t15 n15 => ?_⟩
    have s15 := same_new (o := .lst [.int z0]) n15
    have h15 : upd H13 t15 (.lst [.int z0]) t15 = some (.lst [.int z0]) := upd_same
    have s1015 := s1013.trans s15
    generalize upd H13 t15 (.lst [.int z0]) = H15 at *
    walk_at "aa"
    refine ⟨nn, R, ls, l, z0, g, rfl, hn10.same s1015, ok1, ok2, hl, f0, fg, olt, fun H16 pS ps v xs s16 hpS hps lx row iff => ?_⟩
    walk_at "aa"
    refine a_ixT hpS rfl ?_
    walk_at "aa"
    refine a_lstT hps fun t17 H17 n17 s17 h17 => ?_
    refine a_cat (s17 _ _ (s16 _ _ h15)) h17 (by simp; omega) fun t18 H18 n18 s18 h18 => ?_
    walk_at "aa"
    refine ⟨by show 1 ≤ sizeLine; decide, fun t19 n19 => ?_⟩
    have s19 := same_new (o := .lst [oV g]) n19
    refine a_cat (s19 _ _ h18) upd_same (by simp; omega) fun t20 H20 n20 s20 h20 => ?_
    have s1020 := s1015.trans (s16.trans (s17.trans (s18.trans (s19.trans s20))))
    have eo : [V.int z0] ++ xs.map V.int ++ [oV g] = (some z0 :: xs.map some ++ [g]).map oV := by
      simp only [List.map_append, List.map_cons, List.map_map, List.map_nil]
      rfl
    rw [eo] at h20
    obtain ⟨rq, rle⟩ := row_steps row
    have los : (some z0 :: xs.map some ++ [g]).length = xs.length + 2 := by simp
    have rfit : ∀ o ∈ some z0 :: xs.map some ++ [g], (lkOf ls l).Fit o := fun o ho => by
      rcases List.mem_append.mp ho with ho | ho
      · rcases List.mem_cons.mp ho with rfl | ho
        · exact f0
        · obtain ⟨y, hy, rfl⟩ := List.mem_map.mp ho
          exact QT.fit_up f0 (rle y hy)
      · rw [List.mem_singleton.mp ho]; exact fg
    generalize some z0 :: xs.map some ++ [g] = os at *
    walk_at "aa"
    refine ⟨rfl, ?_⟩
    refine a_bl ?_
    refine iteYN ?_ ?_
    · congr 1
      rw [Bool.eq_iff_iff]
      simp only [decide_eq_true_eq, Bool.not_eq_true', decide_eq_false_iff_not]
      rw [ix, Classical.not_not, ← iff, List.length_map, los]
      constructor
      · intro h
        exact List.length_eq_zero_iff.mp (by omega)
      · rintro rfl
        rfl
    walk_at "aa"
    refine a_slL h20 fun t21 H21 n21 s21 h21 => ?_
    have h21 : H21 t21 = some (.lst ((os.map oV).drop 1)) := by rw [cut1] at h21; exact h21
    walk_at "aa"
    refine ⟨t20, t21, _, _, rfl, SqL.of (s21 _ _ h20), SqL.of h21, ?_⟩
    refine for_go (F := H21) (it_zipL (s21 _ _ h20) h21) (fun _ σ H' => Same H21 H' ∧ ∃ q12 q13, σ = [some (.ref p), some (.int (0 + (i : Int))), some (.ref n), some (.str l.a), some (.str l.b), some (.ref nn), some (.ref bk), some (.ref p7), some (.int z0), some (oV g), some (.str x), some (.ref t20), q12, q13, none]) ⟨Same.refl _, _, _, rfl⟩ (fun _ _ _ h => h.1) (fun _ _ _ _ s h => ⟨h.1.trans s, h.2⟩) ?_ ?_
    · rintro j v σ H22 hj ⟨sF, q12, q13, rfl⟩ ⟨T, u, v', rfl, hT, hu, hv'⟩
      rw [List.getElem?_map] at hu
      obtain ⟨a, ea, rfl⟩ := Option.map_eq_some_iff.mp hu
      rw [← List.map_drop, List.getElem?_map] at hv'
      obtain ⟨b, eb, rfl⟩ := Option.map_eq_some_iff.mp hv'
      have ma := List.mem_of_getElem? ea
      have mb := List.mem_of_mem_drop (List.mem_of_getElem? eb)
      rw [List.getElem?_drop, Nat.add_comm] at eb
      refine a_gtup hT rfl ?_
      walk_at "aa"
      refine ⟨nn, R, ls, l, a, b, rfl, hn10.same (s1020.trans (s21.trans sF)), ok1, ok2, hl, rfit a ma, rfit b mb, fun y H23 s23 iy => ?_⟩
      walk_at "aa"
      refine iteZ (fun cy => iy.mp cy (rq j a b ea eb)) ?_
      walk_at "aa"
      exact ⟨sF.trans s23, _, _, rfl⟩
    rintro σ H22 ⟨sF', q12'', q13'', rfl⟩
    walk_at "aa"
    exact ⟨nxt _ (s1020.trans (s21.trans sF')), _, _, _, _, _, _, _, _, rfl⟩
  · rintro σ H5 ⟨⟨g1, g2⟩, q1, q7, q8, q9, q10, q11, q12, q13, rfl⟩
    walk_at "aa"
    exact k H5 (b4.trans (but_same.mpr g1))
end QB
set_option Elab.async false
set_option linter.all false
set_option maxRecDepth 100000
set_option maxHeartbeats 4000000

set_option pp.deepTerms false
set_option pp.deepTerms.threshold 10
namespace QB
open PySem PySem.Spec L2
open PyProof.Rows (envOfC)
open PySem.PyData (strOk)
open RZ (Ty4 rIsTy call_isTy pi_zipA iZipA ItzT for_zipT for_zipL)
open StX (tStar pa_star)
open QS (SrtR tSrt rSrtI rSrtS rSrtT)
open QT (AllQ Ole Olt)
local macro_rules | `(tactic| walk_at "hp") => `(tactic| first | assumption | exact upd_same | (refine sg (by assumption) ?_; walk_at "hp"))
local macro_rules | `(tactic| walk_at "a") => `(tactic| first
  | with_reducible refine a_seq ?_ | with_reducible refine a_asg ?_ | with_reducible refine a_drop ?_ | with_reducible refine a_ret ?_ | with_reducible refine a_retN ?_
  | with_reducible refine a_ifS ?_ | with_reducible refine a_next ?_ | with_reducible refine a_gname ?_ | with_reducible refine a_nx ?_ | with_reducible refine a_rt ?_ | with_reducible refine a_bk ?_ | with_reducible refine a_ct ?_
  | ((with_reducible show tVar _ _ _ _); refine a_var rfl ?_) | with_reducible refine a_c ?_ | with_reducible refine a_op ?_ | with_reducible refine a_un ?_ | with_reducible refine a_cb ?_ | with_reducible refine a_nil ?_ | with_reducible refine a_cons ?_
  | with_reducible refine a_call ?_ | with_reducible refine a_meth ?_ | with_reducible refine a_make ?_ | with_reducible refine a_test ?_ | with_reducible refine a_tTest ?_ | with_reducible refine a_tand ?_ | with_reducible refine a_tor ?_ | with_reducible refine a_tnot ?_
  | with_reducible refine a_and ?_ | with_reducible refine a_or ?_ | with_reducible refine a_not ?_ | with_reducible refine a_if ?_ | with_reducible refine a_ri0 ?_ | with_reducible refine a_tup ?_ | with_reducible refine a_lst ?_
  | with_reducible refine a_bl ?_ | with_reducible refine a_sfld ?_ | with_reducible refine a_exI ?_ | with_reducible refine a_exZ ?_ | with_reducible refine a_chain ?_ | with_reducible refine a_lc ?_ | with_reducible refine a_yes ?_ | with_reducible refine a_gcons ?_ | with_reducible refine a_gnil ?_ | with_reducible refine w_list ?_ | with_reducible refine w_tup ?_ | with_reducible refine w_str ?_ | with_reducible refine w_rng1 ?_ | with_reducible refine w_zip ?_ | with_reducible refine w_zipA ?_
  | with_reducible refine a_tFld ?_ | with_reducible refine a_dget ?_ | with_reducible refine a_din ?_ | with_reducible refine a_dnin ?_ | with_reducible refine a_sl ?_ | with_reducible refine a_slNone ?_ | with_reducible refine a_slSome ?_
  | with_reducible refine a_isN ?_ | with_reducible refine a_notN ?_ | with_reducible refine a_eqI ?_ | with_reducible refine a_neI ?_ | with_reducible refine a_eqZ ?_ | with_reducible refine a_neZ ?_ | with_reducible refine a_ltZ ?_ | with_reducible refine a_int ?_ | with_reducible refine a_intB ?_ | with_reducible refine a_abs ?_ | with_reducible refine a_max2 ?_ | with_reducible refine a_min2 ?_ | with_reducible refine a_bm ?_
  | ((with_reducible show rLenQ _ _ _ _); first | refine a_lenT (by walk_at "hp") ?_ | refine a_lenL (by walk_at "hp") ?_)
  | with_reducible refine a_prsC ?_ | with_reducible refine a_prsN ?_ | with_reducible refine a_for ?_ | with_reducible refine a_dput ?_ | with_reducible refine w_keys ?_ | with_reducible refine w_listT ?_
  | with_reducible refine QB.a_rU ?_ | with_reducible refine QB.a_cKw ?_ | with_reducible refine QB.a_star ?_ | with_reducible refine QB.a_dget2 ?_
  | with_reducible refine QB.a_par ?_ | with_reducible refine QB.a_par3 ?_
  | with_reducible refine QB.a_srt ?_
  | with_reducible refine QB.a_dc ?_
  | with_reducible refine iteT ?_ | with_reducible refine iteNT ?_ | with_reducible refine iteNF ?_ | with_reducible refine iteF ?_ | with_reducible refine a_prop ?_)
local macro_rules | `(tactic| walk_at "aa") => `(tactic| (walk_at "a"; repeat walk_at "a"))

variable {P : Program} {w : World} {K : PySem.W.Frag} {mg : Str → Option Value} {base : Heap} {CN CC : Addr}
/-- one thing of a heap alone -/
def only (d : Addr) (H : Hp) : Hp := fun b => if b = d then H d else none
theorem only_le {d : Addr} {H : Hp} : Same (only d H) H := fun b u e => by
  unfold only at e
  by_cases c : b = d
  · rw [if_pos c] at e; rw [c]; exact e
  · rw [if_neg c] at e; cases e
theorem only_but {d p : Addr} {H H1 H' : Hp} (ne : d ≠ p) (s : Same (only d H) H1) (b : But p H1 H') : Same (only d H) H' := fun c u e => by
  have e1 := s _ _ e
  unfold only at e
  by_cases q : c = d
  · subst q; exact b _ _ ne e1
  · rw [if_neg q] at e; cases e
def spLaw (K : PySem.W.Frag) : Sp := fun vs H Q _ => ∃ (a : Addr) (ns : List Int), vs = [.ref a] ∧ SqL K H a (ns.map V.int) ∧ ∀ H' : Hp, Q (.bl true) H'
abbrev N_law : List Str := ["_law_script", "_law_pot_here"]
theorem sc_law : FnScope N_law ["_law_script"] (defScope QH.s_law) := ⟨rfl, rfl, rfl, by decide +kernel, rfl, by decide +kernel, by decide +kernel⟩
theorem b_law (T : Tx P w K mg base CN CC) (D_law_pots : DefOk P w K mg base "_law_pots" ["_law_script", "_law_most"] (spPots K) 2) (D_law_case_right : DefOk P w K mg base "_law_case_right" ["_law_pot_here"] spCase 14) {f : Addr} {fd : FuncData} (F : Fun K "law" "law" QH.s_law f fd) : FnOk P w K mg base CX0 15 f fd ["_law_script"] (spLaw K) := by
  refine F.ok sc_law (fun vs H Q E h => by obtain ⟨a, ns, rfl, _⟩ := h; rfl) (fun cdv A outer s0 H vs Q E hr h => ?_)
  have nd := sc_law.nd
  obtain ⟨a, ns, rfl, hS, k⟩ := h
  refine ⟨_, (pss_one (ps_ret (pe_callB (ki_all (K := K) rfl) (by rfl) T.f_all (by decide +kernel) (pa_cons (pe_lc (own := [("_law_pot_here", 1)]) (g := (gName 1)) (tt := tYes) rfl nd (ki_plist (K := K) (pe_callD D_law_pots (hr.mono (by decide)) (by rfl) (pa_cons (pv 0) (pa_cons pe_int pa_nil)))) (blkOk_by (by with_unfolding_all rfl)) (fun _ _ _ _ _ => (pg_name (i := 1) nd rfl (by first | exact Or.inl rfl | exact Or.inr rfl))) (fun _ _ _ _ _ => pts_nil) (fun _ _ _ _ _ => (pe_callD D_law_case_right (hr.mono (by decide)) (by rfl) (pa_cons (pv 1) pa_nil)))) pa_nil)))), ?_⟩
  walk_at "aa"
  refine ⟨a, ns, rfl, hS, fun d1 H1 ps s1 h1 l3 nd2 hps => ?_⟩
  refine ⟨d1, rfl, ⟨_, SqL.of h1⟩, fun D nD => ?_⟩
  have ne1 : ∀ q ∈ ps, d1 ≠ q := by
    rintro q hq rfl
    obtain ⟨o, s, c, e, _⟩ := hps d1 hq
    rw [h1] at e
    injection e with e
    injection e with e
    match ps, e with
    | _ :: _, e => cases e
  have f1 : only d1 H1 d1 = some (.lst (ps.map V.ref)) := by unfold only; rw [if_pos rfl]; exact h1
  have fD : only d1 H1 D = none := by
    unfold only
    by_cases q : D = d1
    · subst q; rw [h1] at nD; cases nD
    · rw [if_neg q]
  refine lcB_go (F := only d1 H1) (it_list f1) only_le nD (fun i acc H' => (∀ v ∈ acc, v = .bl true) ∧ ∀ q ∈ ps.drop i, PotAt H' q 0 ∧ q ≠ D) ⟨fun _ h => (nomatch h), fun q hq => ?_⟩ ?_ ?_ ?_
  · have hq := List.mem_of_mem_drop hq
    refine ⟨hps q hq, ?_⟩
    rintro rfl
    obtain ⟨xs, e⟩ := (hps q hq).some
    rw [e] at nD; cases nD
  · rintro i acc Ha Hb b ⟨r1, r2⟩
    exact ⟨r1, fun q hq => ⟨(r2 q hq).1.but b (r2 q hq).2, (r2 q hq).2⟩⟩
  · rintro i acc H2 x hi sF hD lc ⟨r1, r2⟩ hx
    rw [List.getElem?_map] at hx
    obtain ⟨q, eq, rfl⟩ := Option.map_eq_some_iff.mp hx
    have hq : q ∈ ps.drop i := by
      obtain ⟨hi', rfl⟩ := List.getElem?_eq_some_iff.mp eq
      rw [List.mem_iff_getElem]
      exact ⟨0, by simp; omega, by simp⟩
    obtain ⟨hpq, neq⟩ := r2 q hq
    walk_at "aa"
    refine ⟨rfl, ?_⟩
    walk_at "aa"
    refine ⟨q, rfl, hpq, fun H3 b3 => ?_⟩
    refine lcB_put (by simp at hi; omega) fD ?_ (only_but (ne1 q (List.mem_of_getElem? eq)) sF b3) (b3 _ _ (Ne.symm neq) hD) lc ⟨fun v hv => ?_, fun q' hq' => ?_⟩
    · rintro i acc Ha Hb b ⟨r1, r2⟩
      exact ⟨r1, fun q hq => ⟨(r2 q hq).1.but b (r2 q hq).2, (r2 q hq).2⟩⟩
    · rcases List.mem_append.mp hv with hv | hv
      · exact r1 v hv
      · exact List.mem_singleton.mp hv
    · have hq2 : q' ∈ ps.drop i := by
        rw [← List.drop_drop] at hq' <;> exact List.mem_of_mem_drop hq'
      obtain ⟨h1', h2'⟩ := r2 q' hq2
      refine ⟨h1'.but b3 ?_, h2'⟩
      rintro rfl
      obtain ⟨hi', e1⟩ := List.getElem?_eq_some_iff.mp eq
      obtain ⟨j, hj, e2⟩ := List.mem_iff_getElem.mp hq'
      rw [List.getElem_drop] at e2
      have := (List.getElem_inj nd2).mp (e1.trans e2.symm)
      omega
  · rintro acc H2 sF hD lc ⟨r1, r2⟩
    walk_at "aa"
    exact a_allT hD r1 (k H2)
end QB
set_option Elab.async false
set_option linter.all false
set_option maxRecDepth 100000
set_option maxHeartbeats 4000000

namespace QF
open PySem PySem.Spec PyProof.Rows L2 QB
local macro_rules | `(tactic| walk_at "hp") => `(tactic| first | assumption | exact upd_same | (refine sg (by assumption) ?_; walk_at "hp"))
local macro_rules | `(tactic| walk_at "a") => `(tactic| first
  | with_reducible refine a_seq ?_ | with_reducible refine a_asg ?_ | with_reducible refine a_drop ?_ | with_reducible refine a_ret ?_ | with_reducible refine a_retN ?_
  | with_reducible refine a_ifS ?_ | with_reducible refine a_next ?_ | with_reducible refine a_gname ?_ | with_reducible refine a_nx ?_ | with_reducible refine a_rt ?_ | with_reducible refine a_bk ?_ | with_reducible refine a_ct ?_
  | ((with_reducible show tVar _ _ _ _); refine a_var rfl ?_) | with_reducible refine a_c ?_ | with_reducible refine a_op ?_ | with_reducible refine a_un ?_ | with_reducible refine a_cb ?_ | with_reducible refine a_nil ?_ | with_reducible refine a_cons ?_
  | with_reducible refine a_call ?_ | with_reducible refine a_meth ?_ | with_reducible refine a_make ?_ | with_reducible refine a_test ?_ | with_reducible refine a_tTest ?_ | with_reducible refine a_tand ?_ | with_reducible refine a_tor ?_ | with_reducible refine a_tnot ?_
  | with_reducible refine a_and ?_ | with_reducible refine a_or ?_ | with_reducible refine a_not ?_ | with_reducible refine a_if ?_ | with_reducible refine a_ri0 ?_ | with_reducible refine a_tup ?_ | with_reducible refine a_lst ?_
  | with_reducible refine a_bl ?_ | with_reducible refine a_sfld ?_ | with_reducible refine a_exI ?_ | with_reducible refine a_exZ ?_ | with_reducible refine a_chain ?_ | with_reducible refine a_lc ?_ | with_reducible refine a_yes ?_ | with_reducible refine a_gcons ?_ | with_reducible refine a_gnil ?_ | with_reducible refine w_list ?_ | with_reducible refine w_tup ?_ | with_reducible refine w_str ?_ | with_reducible refine w_rng1 ?_ | with_reducible refine w_zip ?_ | with_reducible refine w_zipA ?_
  | with_reducible refine a_tFld ?_ | with_reducible refine a_dget ?_ | with_reducible refine a_din ?_ | with_reducible refine a_dnin ?_ | with_reducible refine a_sl ?_ | with_reducible refine a_slNone ?_ | with_reducible refine a_slSome ?_
  | with_reducible refine a_isN ?_ | with_reducible refine a_notN ?_ | with_reducible refine a_eqI ?_ | with_reducible refine a_neI ?_ | with_reducible refine a_eqZ ?_ | with_reducible refine a_neZ ?_ | with_reducible refine a_ltZ ?_ | with_reducible refine a_int ?_ | with_reducible refine a_intB ?_ | with_reducible refine a_abs ?_ | with_reducible refine a_max2 ?_ | with_reducible refine a_min2 ?_ | with_reducible refine a_bm ?_
  | ((with_reducible show rLenQ _ _ _ _); first | refine a_lenT (by walk_at "hp") ?_ | refine a_lenL (by walk_at "hp") ?_)
  | with_reducible refine a_prsC ?_ | with_reducible refine a_prsN ?_ | with_reducible refine a_for ?_ | with_reducible refine a_dput ?_ | with_reducible refine w_keys ?_ | with_reducible refine w_listT ?_
  | with_reducible refine QB.a_rU ?_ | with_reducible refine QB.a_cKw ?_ | with_reducible refine QB.a_star ?_ | with_reducible refine QB.a_dget2 ?_
  | with_reducible refine QB.a_par ?_ | with_reducible refine QB.a_par3 ?_
  | with_reducible refine QB.a_srt ?_
  | with_reducible refine QB.a_dc ?_
  | with_reducible refine iteT ?_ | with_reducible refine iteNT ?_ | with_reducible refine iteNF ?_ | with_reducible refine iteF ?_ | with_reducible refine a_prop ?_)
local macro_rules | `(tactic| walk_at "aa") => `(tactic| (walk_at "a"; repeat walk_at "a"))

variable {P : Program} {w : World} {K : PySem.W.Frag} {mg : Str → Option Value} {base : Heap} {CN CC : Addr}
theorem says_one (c : QH.SaysQ K) : ((QH.propB K "Net" "routers" && QH.propB K "Net" "links") && ((QH.fa.all fun f => f.ok K) && QH.fn.all fun d => d.ok K)) = true := congrArg (fun z : He.AlD => z.1) c
theorem says_fact (c : QH.SaysQ K) (i : Nat) {f : He.Fa} (h : QH.fa[i]? = some f) : f.ok K = true := by
  have c1 := (He.ba (He.ba (says_one c)).2).1
  exact List.all_eq_true.mp c1 f (List.mem_of_getElem? h)
theorem says_def (c : QH.SaysQ K) (i : Nat) {d : He5.DefA} (h : QH.fn[i]? = some d) : ∃ fd, L2.FunD K d.name d.qual d.params d.body d.scope (d.dvs K) (d.kws K) (d.at_ K) fd := by
  have c2 := (He.ba (He.ba (says_one c)).2).2
  have e : QH.fn.map (fun d => He5.fnA K (d.at_ K)) = QH.fn.map He5.DefA.val := congrArg (fun z : He.AlD => z.2) c
  have e2 : (QH.fn.map fun d => He5.fnA K (d.at_ K))[i]? = (QH.fn.map He5.DefA.val)[i]? := by rw [e]
  rw [List.getElem?_map, List.getElem?_map, h] at e2
  exact He5.DefA.funD (Option.some.inj e2) (List.all_eq_true.mp c2 d (List.mem_of_getElem? h))
theorem prop_ok {C f : Str} (c : QH.propB K C f = true) : PropOf K (He.ga K C) f (He.ma K (He.ga K C) f) (QH.propG K (He.ma K (He.ga K C) f)) := by
  obtain ⟨c1, c⟩ := He.ba c
  obtain ⟨c2, c⟩ := He.ba c
  obtain ⟨c3, c4⟩ := He.ba c
  refine ⟨He.eqO_ok c1, He.eqO_ok c2, of_decide_eq_true c3, ?_⟩
  unfold QH.propG
  generalize PySem.W.recIn K (He.ma K (He.ga K C) f) "property" = z at *
  match z, c4 with
  | some (.ref g :: r), _ => exact ⟨r, rfl⟩
theorem fun_g (c : QH.SaysQ K) {a : PySem.W.Frag → Addr} {x q : Str} {st : Stmt} (i : Nat) (h : QH.fn[i]? = some ⟨a, x, q, defArgs st, defBody st, defScope st, [], []⟩) : ∃ fd, Fun K x q st (a K) fd := by
  obtain ⟨fd, F⟩ := says_def c i h
  exact ⟨fd, He5.fun_of F⟩
theorem fun_at {h : Heap} (X : K.In h) (G : h.Ns mainGlobals mg) (c : QH.SaysQ K) {x : Str} {st : Stmt} (i j : Nat) (hd : QH.fn[i]? = some ⟨fun K => He.fAd K (x, none), x, x, defArgs st, defBody st, defScope st, [], []⟩) (hf : QH.fa[j]? = some (.glo x)) : FunAt K mg x st := by
  obtain ⟨fd, F⟩ := fun_g c i hd
  exact ⟨He.ga K x, fd, He.glo_ok X G (says_fact c j hf), F⟩
abbrev N_Net_routers : List Str := ["self"]
theorem sc_Net_routers : FnScope N_Net_routers ["self"] (defScope QH.s_Net_routers) := ⟨rfl, rfl, rfl, by decide +kernel, rfl, by decide +kernel, by decide +kernel⟩
theorem b_Net_routers (cl : Cls K CN) (no : NoAttr K CN "own_routers") {f : Addr} {fd : FuncData} (F : Fun K "routers" "Net.routers" QH.s_Net_routers f fd) : FnOk P w K mg base CX0 1 f fd ["self"] (getSp CN "own_routers") := by
  refine F.ok sc_Net_routers (fun vs H Q E h => by obtain ⟨a, dx, fs, v, rfl, _⟩ := h; rfl) (fun cdv A outer s H vs Q E hr h => ?_)
  have nd := sc_Net_routers.nd
  obtain ⟨a, dx, fs, v, rfl, ea, l, q⟩ := h
  refine ⟨_, (pss_one (ps_ret (ki_fld (K := K) (pv 0) rfl))), ?_⟩
  walk_at "aa"
  exact ⟨a, CN, dx, fs, v, rfl, ea, cl, no, l, q⟩
abbrev N_Net_links : List Str := ["self"]
theorem sc_Net_links : FnScope N_Net_links ["self"] (defScope QH.s_Net_links) := ⟨rfl, rfl, rfl, by decide +kernel, rfl, by decide +kernel, by decide +kernel⟩
theorem b_Net_links (cl : Cls K CN) (no : NoAttr K CN "own_links") {f : Addr} {fd : FuncData} (F : Fun K "links" "Net.links" QH.s_Net_links f fd) : FnOk P w K mg base CX0 1 f fd ["self"] (getSp CN "own_links") := by
  refine F.ok sc_Net_links (fun vs H Q E h => by obtain ⟨a, dx, fs, v, rfl, _⟩ := h; rfl) (fun cdv A outer s H vs Q E hr h => ?_)
  have nd := sc_Net_links.nd
  obtain ⟨a, dx, fs, v, rfl, ea, l, q⟩ := h
  refine ⟨_, (pss_one (ps_ret (ki_fld (K := K) (pv 0) rfl))), ?_⟩
  walk_at "aa"
  exact ⟨a, CN, dx, fs, v, rfl, ea, cl, no, l, q⟩
theorem the_law {h : Heap} (X : K.In h) (G : h.Ns mainGlobals mg) (c : QH.SaysQ K) {f : Addr} {fd : FuncData} (FL : Fun K "law" "law" QH.s_law f fd) : FnOk P w K mg base CX0 15 f fd ["_law_script"] (spLaw K) := by
  have cl_Net : Cls K (He.ga K "Net") := He.cls_ok (says_fact c 70 rfl)
  have cl_Change : Cls K (He.ga K "Change") := He.cls_ok (says_fact c 73 rfl)
  have na_own_routers : NoAttr K (He.ga K "Net") "own_routers" := He.noat_ok (says_fact c 75 rfl)
  have na_own_links : NoAttr K (He.ga K "Net") "own_links" := He.noat_ok (says_fact c 76 rfl)
  obtain ⟨fd_routers, F_routers⟩ := fun_g c 12 (x := "routers") (q := "Net.routers") (st := QH.s_Net_routers) rfl
  obtain ⟨fd_links, F_links⟩ := fun_g c 13 (x := "links") (q := "Net.links") (st := QH.s_Net_links) rfl
  have pp := (He.ba (says_one c)).1
  have T : Tx P w K mg base (He.ga K "Net") (He.ga K "Change") := {
    f_len := He.free_ok X G (says_fact c 91 rfl)
    f_isinstance := He.free_ok X G (says_fact c 90 rfl)
    f_all := He.free_ok X G (says_fact c 92 rfl)
    f_zip := He.free_ok X G (says_fact c 93 rfl)
    f_range := He.free_ok X G (says_fact c 94 rfl)
    f_list := He.free_ok X G (says_fact c 95 rfl)
    f_tuple := He.free_ok X G (says_fact c 96 rfl)
    f_set := He.free_ok X G (says_fact c 97 rfl)
    f_sorted := He.free_ok X G (says_fact c 98 rfl)
    f_max := He.free_ok X G (says_fact c 99 rfl)
    f_min := He.free_ok X G (says_fact c 100 rfl)
    f_abs := He.free_ok X G (says_fact c 101 rfl)
    f_int := He.free_ok X G (says_fact c 102 rfl)
    f_enumerate := He.free_ok X G (says_fact c 103 rfl)
    f_str := He.free_ok X G (says_fact c 104 rfl)
    f_bool := He.free_ok X G (says_fact c 105 rfl)
    c_LETTERS := He.str_ok X G (says_fact c 0 rfl)
    c_LONGEST_NAME := He.int_ok X G (says_fact c 1 rfl)
    c_FEWEST_ROUTERS := He.int_ok X G (says_fact c 2 rfl)
    c_MOST_ROUTERS := He.int_ok X G (says_fact c 3 rfl)
    c_MOST_LINKS := He.int_ok X G (says_fact c 4 rfl)
    c_LINK := He.int_ok X G (says_fact c 5 rfl)
    c_TURNS := He.str_ok X G (says_fact c 6 rfl)
    c_LOST := He.str_ok X G (says_fact c 7 rfl)
    c_QUIET := He.str_ok X G (says_fact c 8 rfl)
    c_STEPS := He.str_ok X G (says_fact c 9 rfl)
    net := ⟨cl_Net, na_own_routers, na_own_links, ⟨_, _, fd_routers, prop_ok (He.ba pp).1, F_routers.binds (fun _ _ _ _ _ _ us hl => match us, hl with | [_], _ => rfl), b_Net_routers cl_Net na_own_routers F_routers⟩, ⟨_, _, fd_links, prop_ok (He.ba pp).2, F_links.binds (fun _ _ _ _ _ _ us hl => match us, hl with | [_], _ => rfl), b_Net_links cl_Net na_own_links F_links⟩⟩
    chg := cl_Change
    ch_net := He.noat_ok (says_fact c 77 rfl)
    ch_pair := He.noat_ok (says_fact c 78 rfl)
    ch_least := He.noat_ok (says_fact c 79 rfl)
    ch_lengths := He.noat_ok (says_fact c 80 rfl)
    ch_plain := He.noat_ok (says_fact c 81 rfl)
    ch_over := He.noat_ok (says_fact c 82 rfl)
  }
  have D_is_integer := QB.D_is_integer (P := P) (w := w) (base := base) T (fun_at X G c (x := "is_integer") (st := QH.s_is_integer) 0 10 rfl rfl)
  have D_is_from := QB.D_is_from (P := P) (w := w) (base := base) (fun_at X G c (x := "is_from") (st := QH.s_is_from) 1 11 rfl rfl) D_is_integer
  have D_is_one_of := QB.D_is_one_of (P := P) (w := w) (base := base) T (fun_at X G c (x := "is_one_of") (st := QH.s_is_one_of) 3 13 rfl rfl)
  have D_is_tuple_of := QB.D_is_tuple_of (P := P) (w := w) (base := base) T (fun_at X G c (x := "is_tuple_of") (st := QH.s_is_tuple_of) 4 14 rfl rfl)
  have D_is_tuple_to := QB.D_is_tuple_to (P := P) (w := w) (base := base) T (fun_at X G c (x := "is_tuple_to") (st := QH.s_is_tuple_to) 5 15 rfl rfl)
  have D_is_name := QB.D_is_name (P := P) (w := w) (base := base) T (fun_at X G c (x := "is_name") (st := QH.s_is_name) 2 12 rfl rfl)
  have D_are_ascending := QB.D_are_ascending (P := P) (w := w) (base := base) T (fun_at X G c (x := "are_ascending") (st := QH.s_are_ascending) 6 16 rfl rfl)
  have D_is_ascending_of := QB.D_is_ascending_of (P := P) (w := w) (base := base) T (fun_at X G c (x := "is_ascending_of") (st := QH.s_is_ascending_of) 7 17 rfl rfl) D_is_one_of D_are_ascending
  have D_are_routers := QB.D_are_routers (P := P) (w := w) (base := base) T (fun_at X G c (x := "are_routers") (st := QH.s_are_routers) 8 18 rfl rfl) D_is_tuple_to D_is_name D_are_ascending
  have D_is_link := QB.D_is_link (P := P) (w := w) (base := base) T (fun_at X G c (x := "is_link") (st := QH.s_is_link) 9 19 rfl rfl) D_is_tuple_of D_is_ascending_of D_is_from
  have D_are_links := QB.D_are_links (P := P) (w := w) (base := base) T (fun_at X G c (x := "are_links") (st := QH.s_are_links) 10 20 rfl rfl) D_is_tuple_to D_is_link D_are_ascending
  obtain ⟨fd_Net_init, F_Net_init⟩ := fun_g c 11 (x := "__init__") (q := "Net.__init__") (st := QH.s_Net_init) rfl
  have C_Net : MakeOk P w K mg base "Net" (He.ga K "Net") ["self", "routers", "links"] (spNetInit (He.ga K "Net")) 5 := ⟨_, fd_Net_init, He.mkr_ok (says_fact c 71 rfl), He.glo_ok X G (says_fact c 69 rfl), F_Net_init.binds (fun _ _ _ _ _ _ us hl => match us, hl with | [_, _, _], _ => rfl), QB.b_Net_init (P := P) (w := w) (base := base) T D_are_routers D_are_links F_Net_init⟩
  have D_check_routers := QB.D_check_routers (P := P) (w := w) (base := base) T (fun_at X G c (x := "check_routers") (st := QH.s_check_routers) 16 21 rfl rfl) D_is_one_of
  have D_link_of := QB.D_link_of (P := P) (w := w) (base := base) T (fun_at X G c (x := "link_of") (st := QH.s_link_of) 17 22 rfl rfl) D_is_one_of
  have D_lengths_of := QB.D_lengths_of (P := P) (w := w) (base := base) T (fun_at X G c (x := "lengths_of") (st := QH.s_lengths_of) 18 23 rfl rfl)
  obtain ⟨fd_Net_without, F_Net_without⟩ := fun_g c 15 (x := "without") (q := "Net.without") (st := QH.s_Net_without) rfl
  have M_Net_without : MethOk P w K mg base (He.ga K "Net") "without" ["self", "a", "b"] (spWithout (He.ga K "Net")) 7 := ⟨_, fd_Net_without, cl_Net, He.meth_ok (says_fact c 84 rfl), F_Net_without.binds (fun _ _ _ _ _ _ us hl => match us, hl with | [_, _, _], _ => rfl), QB.b_Net_without (P := P) (w := w) (base := base) T D_link_of C_Net F_Net_without⟩
  have D_distances_to := QB.D_distances_to (P := P) (w := w) (base := base) T (fun_at X G c (x := "distances_to") (st := QH.s_distances_to) 19 24 rfl rfl)
  have D_nexts_by := QB.D_nexts_by (P := P) (w := w) (base := base) T (fun_at X G c (x := "nexts_by") (st := QH.s_nexts_by) 20 25 rfl rfl)
  have D_tables_by := QB.D_tables_by (P := P) (w := w) (base := base) T (fun_at X G c (x := "tables_by") (st := QH.s_tables_by) 21 26 rfl rfl) D_distances_to D_nexts_by
  have D_next_tables := QB.D_next_tables (P := P) (w := w) (base := base) T (fun_at X G c (x := "next_tables") (st := QH.s_next_tables) 22 27 rfl rfl) D_tables_by D_lengths_of
  have D_check_like := QB.D_check_like (P := P) (w := w) (base := base) T (fun_at X G c (x := "check_like") (st := QH.s_check_like) 23 28 rfl rfl)
  have D_links_towards := QB.D_links_towards (P := P) (w := w) (base := base) T (fun_at X G c (x := "links_towards") (st := QH.s_links_towards) 24 29 rfl rfl)
  have D_ranked := QB.D_ranked (P := P) (w := w) (base := base) T (fun_at X G c (x := "ranked") (st := QH.s_ranked) 25 30 rfl rfl)
  have D_ring_in := QB.D_ring_in (P := P) (w := w) (base := base) T (fun_at X G c (x := "ring_in") (st := QH.s_ring_in) 26 31 rfl rfl)
  have D_ring_for := QB.D_ring_for (P := P) (w := w) (base := base) T (fun_at X G c (x := "ring_for") (st := QH.s_ring_for) 27 32 rfl rfl) D_links_towards D_ranked D_ring_in
  have D_turns := QB.D_turns (P := P) (w := w) (base := base) T (fun_at X G c (x := "turns") (st := QH.s_turns) 28 33 rfl rfl) D_ring_for
  have D_loss_for := QB.D_loss_for (P := P) (w := w) (base := base) T (fun_at X G c (x := "loss_for") (st := QH.s_loss_for) 29 34 rfl rfl)
  have D_loss := QB.D_loss (P := P) (w := w) (base := base) T (fun_at X G c (x := "loss") (st := QH.s_loss) 30 35 rfl rfl) D_loss_for
  have D_ranks_of := QB.D_ranks_of (P := P) (w := w) (base := base) T (fun_at X G c (x := "ranks_of") (st := QH.s_ranks_of) 31 36 rfl rfl) D_links_towards D_ranked
  have D_judged := QB.D_judged (P := P) (w := w) (base := base) T (fun_at X G c (x := "judged") (st := QH.s_judged) 32 37 rfl rfl) D_check_like D_next_tables D_turns D_loss D_ranks_of
  obtain ⟨fd_Net_with_link, F_Net_with_link⟩ := fun_g c 14 (x := "with_link") (q := "Net.with_link") (st := QH.s_Net_with_link) rfl
  have M_Net_with_link : MethOk P w K mg base (He.ga K "Net") "with_link" ["self", "a", "b", "there", "back"] (spWithLink (He.ga K "Net")) 7 := ⟨_, fd_Net_with_link, cl_Net, He.meth_ok (says_fact c 83 rfl), F_Net_with_link.binds (fun _ _ _ _ _ _ us hl => match us, hl with | [_, _, _, _, _], _ => rfl), QB.b_Net_with_link (P := P) (w := w) (base := base) T D_check_routers D_is_from C_Net F_Net_with_link⟩
  have D_shifted := QB.D_shifted (P := P) (w := w) (base := base) T (fun_at X G c (x := "shifted") (st := QH.s_shifted) 40 39 rfl rfl) D_link_of D_is_integer M_Net_without M_Net_with_link
  obtain ⟨fd_Change_init, F_Change_init⟩ := fun_g c 33 (x := "__init__") (q := "Change.__init__") (st := QH.s_Change_init) rfl
  have C_Change : MakeOk P w K mg base "Change" (He.ga K "Change") ["self", "net", "a", "b"] (spChgInit (He.ga K "Net") (He.ga K "Change")) 8 := ⟨_, fd_Change_init, He.mkr_ok (says_fact c 74 rfl), He.glo_ok X G (says_fact c 72 rfl), F_Change_init.binds (fun _ _ _ _ _ _ us hl => match us, hl with | [_, _, _, _], _ => rfl), QB.b_Change_init (P := P) (w := w) (base := base) T D_link_of D_lengths_of D_distances_to M_Net_without F_Change_init⟩
  obtain ⟨fd_Change_detour, F_Change_detour⟩ := fun_g c 34 (x := "detour") (q := "Change.detour") (st := QH.s_Change_detour) rfl
  have M_Change_detour : MethOk P w K mg base (He.ga K "Change") "detour" ["self", "router", "d"] (spDetour (He.ga K "Net") (He.ga K "Change")) 1 := ⟨_, fd_Change_detour, cl_Change, He.meth_ok (says_fact c 85 rfl), F_Change_detour.binds (fun _ _ _ _ _ _ us hl => match us, hl with | [_, _, _], _ => rfl), QB.b_Change_detour (P := P) (w := w) (base := base) T F_Change_detour⟩
  obtain ⟨fd_Change_point, F_Change_point⟩ := fun_g c 35 (x := "point") (q := "Change.point") (st := QH.s_Change_point) rfl
  have M_Change_point : MethOk P w K mg base (He.ga K "Change") "point" ["self", "router", "d"] (spPoint (He.ga K "Net") (He.ga K "Change")) 2 := ⟨_, fd_Change_point, cl_Change, He.meth_ok (says_fact c 86 rfl), F_Change_point.binds (fun _ _ _ _ _ _ us hl => match us, hl with | [_, _, _], _ => rfl), QB.b_Change_point (P := P) (w := w) (base := base) T M_Change_detour F_Change_point⟩
  obtain ⟨fd_Change_tables, F_Change_tables⟩ := fun_g c 38 (x := "tables") (q := "Change.tables") (st := QH.s_Change_tables) rfl
  have M_Change_tables : MethOk P w K mg base (He.ga K "Change") "tables" ["self", "t"] (spTables (He.ga K "Net") (He.ga K "Change")) 9 := ⟨_, fd_Change_tables, cl_Change, He.meth_ok (says_fact c 89 rfl), F_Change_tables.binds (fun _ _ _ _ _ _ us hl => match us, hl with | [_, _], _ => rfl), QB.b_Change_tables (P := P) (w := w) (base := base) T D_shifted D_next_tables F_Change_tables⟩
  have D_is_shift := QB.D_is_shift (P := P) (w := w) (base := base) T (fun_at X G c (x := "is_shift") (st := QH.s_is_shift) 39 38 rfl rfl) D_is_integer
  obtain ⟨fd_Change_stands, F_Change_stands⟩ := fun_g c 36 (x := "stands") (q := "Change.stands") (st := QH.s_Change_stands) rfl
  have M_Change_stands : MethOk P w K mg base (He.ga K "Change") "stands" ["self", "router", "n", "d"] (spStands (He.ga K "Net") (He.ga K "Change")) 2 := ⟨_, fd_Change_stands, cl_Change, He.meth_ok (says_fact c 87 rfl), F_Change_stands.binds (fun _ _ _ _ _ _ us hl => match us, hl with | [_, _, _, _], _ => rfl), QB.b_Change_stands (P := P) (w := w) (base := base) T M_Change_detour F_Change_stands⟩
  obtain ⟨fd_Change_stretch, F_Change_stretch⟩ := fun_g c 37 (x := "stretch") (q := "Change.stretch") (st := QH.s_Change_stretch) rfl
  have M_Change_stretch : MethOk P w K mg base (He.ga K "Change") "stretch" ["self", "d", "ring"] (spStretch (He.ga K "Net") (He.ga K "Change")) 3 := ⟨_, fd_Change_stretch, cl_Change, He.meth_ok (says_fact c 88 rfl), F_Change_stretch.binds (fun _ _ _ _ _ _ us hl => match us, hl with | [_, _, _], _ => rfl), QB.b_Change_stretch (P := P) (w := w) (base := base) T M_Change_stands M_Change_point F_Change_stretch⟩
  have D_turns_between := QB.D_turns_between (P := P) (w := w) (base := base) T (fun_at X G c (x := "turns_between") (st := QH.s_turns_between) 42 41 rfl rfl) D_turns M_Change_tables
  have D_all_points := QB.D_all_points (P := P) (w := w) (base := base) T (fun_at X G c (x := "all_points") (st := QH.s_all_points) 41 40 rfl rfl) M_Change_point
  have D_next_stop := QB.D_next_stop (P := P) (w := w) (base := base) T (fun_at X G c (x := "next_stop") (st := QH.s_next_stop) 43 42 rfl rfl) D_turns_between M_Change_stretch
  have D_rising_steps := QB.D_rising_steps (P := P) (w := w) (base := base) T (fun_at X G c (x := "rising_steps") (st := QH.s_rising_steps) 44 43 rfl rfl) D_all_points D_next_stop
  have D_is_before := QB.D_is_before (P := P) (w := w) (base := base) T (fun_at X G c (x := "is_before") (st := QH.s_is_before) 45 44 rfl rfl)
  have D_checked_change := QB.D_checked_change (P := P) (w := w) (base := base) T (fun_at X G c (x := "checked_change") (st := QH.s_checked_change) 46 45 rfl rfl) C_Change D_is_shift
  have D_steps := QB.D_steps (P := P) (w := w) (base := base) T (fun_at X G c (x := "steps") (st := QH.s_steps) 47 46 rfl rfl) D_checked_change D_is_before D_rising_steps
  have D_law_take := QB.D_law_take (P := P) (w := w) (base := base) T (fun_at X G c (x := "_law_take") (st := QH.s__law_take) 49 48 rfl rfl)
  have D_law_pot := QB.D_law_pot (P := P) (w := w) (base := base) T (fun_at X G c (x := "_law_pot") (st := QH.s__law_pot) 48 47 rfl rfl)
  have D_law_pots := QB.D_law_pots (P := P) (w := w) (base := base) T (fun_at X G c (x := "_law_pots") (st := QH.s__law_pots) 50 49 rfl rfl) D_law_pot
  have D_law_of := QB.D_law_of (P := P) (w := w) (base := base) T (fun_at X G c (x := "_law_of") (st := QH.s__law_of) 51 50 rfl rfl) D_law_take
  have D_law_turned := QB.D_law_turned (P := P) (w := w) (base := base) T (fun_at X G c (x := "_law_turned") (st := QH.s__law_turned) 52 51 rfl rfl) D_law_take
  have D_law_far := QB.D_law_far (P := P) (w := w) (base := base) T (fun_at X G c (x := "_law_far") (st := QH.s__law_far) 54 53 rfl rfl) D_law_take D_law_of
  have D_law_names := QB.D_law_names (P := P) (w := w) (base := base) T (fun_at X G c (x := "_law_names") (st := QH.s__law_names) 53 52 rfl rfl) D_law_take D_law_of
  have D_law_pairs := QB.D_law_pairs (P := P) (w := w) (base := base) T (fun_at X G c (x := "_law_pairs") (st := QH.s__law_pairs) 55 54 rfl rfl) D_law_take D_law_turned
  have D_law_made := QB.D_law_made (P := P) (w := w) (base := base) T (fun_at X G c (x := "_law_made") (st := QH.s__law_made) 57 56 rfl rfl) C_Net
  have D_law_with := QB.D_law_with (P := P) (w := w) (base := base) T (fun_at X G c (x := "_law_with") (st := QH.s__law_with) 60 59 rfl rfl)
  have D_law_without := QB.D_law_without (P := P) (w := w) (base := base) T (fun_at X G c (x := "_law_without") (st := QH.s__law_without) 61 60 rfl rfl)
  have D_law_world := QB.D_law_world (P := P) (w := w) (base := base) T (fun_at X G c (x := "_law_world") (st := QH.s__law_world) 56 55 rfl rfl) D_law_take D_law_names D_law_pairs D_law_far
  have D_law_link_of := QB.D_law_link_of (P := P) (w := w) (base := base) T (fun_at X G c (x := "_law_link_of") (st := QH.s__law_link_of) 62 61 rfl rfl) D_law_world D_law_with D_law_far D_law_of
  have D_law_lengths := QB.D_law_lengths (P := P) (w := w) (base := base) T (fun_at X G c (x := "_law_lengths") (st := QH.s__law_lengths) 58 57 rfl rfl)
  have D_law_far_from := QB.D_law_far_from (P := P) (w := w) (base := base) T (fun_at X G c (x := "_law_far_from") (st := QH.s__law_far_from) 59 58 rfl rfl)
  have D_law_point_of := QB.D_law_point_of (P := P) (w := w) (base := base) T (fun_at X G c (x := "_law_point_of") (st := QH.s__law_point_of) 63 62 rfl rfl)
  have D_law_book := QB.D_law_book (P := P) (w := w) (base := base) T (fun_at X G c (x := "_law_book") (st := QH.s__law_book) 64 63 rfl rfl) D_law_lengths D_law_without D_law_far_from D_law_point_of
  have D_law_times := QB.D_law_times (P := P) (w := w) (base := base) T (fun_at X G c (x := "_law_times") (st := QH.s__law_times) 65 64 rfl rfl)
  have D_law_shift := QB.D_law_shift (P := P) (w := w) (base := base) T (fun_at X G c (x := "_law_shift") (st := QH.s__law_shift) 66 65 rfl rfl) D_law_times D_law_take D_law_of
  have D_law_word := QB.D_law_word (P := P) (w := w) (base := base) T (fun_at X G c (x := "_law_word") (st := QH.s__law_word) 67 66 rfl rfl) D_judged D_shifted
  have D_law_case_right := QB.D_law_case_right (P := P) (w := w) (base := base) T (fun_at X G c (x := "_law_case_right") (st := QH.s__law_case_right) 68 67 rfl rfl) D_law_link_of D_law_made D_law_book D_law_shift D_law_take D_law_of D_law_word D_steps
  exact QB.b_law T D_law_pots D_law_case_right FL
theorem facts {h : Heap} {f : Addr} (X : K.In h) (G : h.Ns mainGlobals mg) (hfa : mg ("law" : Str) = some (.ref f)) (c : QH.SaysQ K) :
    ∃ fd : FuncData, (∀ (s : Shared) (v : Value), BindsTo s fd ⟨[v], []⟩ [("_law_script", v)]) ∧ ∀ base : Heap, K.In base → base.Ns mainGlobals mg → FnOk P w K mg base CX0 15 f fd ["_law_script"] (spLaw K) := by
  obtain ⟨fd, F⟩ := says_def c 69 (d := QH.d_law) rfl
  have e := hfa.symm.trans (He.glo_ok X G (says_fact c 68 rfl))
  cases e
  have b := FunD.bindsA (ps := ["_law_script"]) F fun _ _ _ _ _ _ us hl => match us, hl with | [_], _ => rfl
  exact ⟨fd, fun s v => b s [v] rfl, fun base _ _ => the_law X G c (He5.fun_of (st := QH.s_law) F)⟩
end QF
open PySem PySem.W PySem.Calls PyProof.Rows
theorem PySem.Challenge.cw_quietturns_k76_whole_quiet_between_holds : PySem.Challenge.rw_quietturns_k76_whole_quiet_between.Holds := by
  w_on; o_law
  refine HandSHeadRun.head_any (r := QH.R) (q := view QH.R.prog [87]) (H := QH.hk) (ob := QH.ob) (M := 20000) (loose := QH.loose) (d := HandSHeadRun.topDef QH.R.prog 87) (kwd := []) QH.ob_eq
    (by kernel_rfl) (fun s => by kernel_rfl) QH.run (by kernel_rfl) (by kernel_rfl) (by kernel_rfl) (by rfl) (by first | assumption | decide +kernel) (by decide +kernel) ⟨rfl, rfl, rfl, rfl, rfl, by decide +kernel⟩ ?hw ?hc
  case hw => w_witness2
  case hc =>
    refine L2.walk_ofE (l := PySem.Challenge.rw_quietturns_k76_whole_quiet_between) (n := 63) (k := 15) (x := "_law_script") (CX := L2.CX0) rfl (by decide) (by kernel_rfl) ⟨rfl, by decide, by decide⟩ ?F (fun _ _ _ _ z => z)
    intro w mg fa h Y G hmg0
    obtain ⟨K, KX, c⟩ := Y
    have hmg : mg ("law" : PySem.Str) = some (.ref fa) := by
      have e : (HandSHeadRun.topDef QH.R.prog 87).name = ("law" : PySem.Str) := by kernel_rfl
      rw [← e]
      exact hmg0
    obtain ⟨fd, hb, hF⟩ := QF.facts (P := (PySem.Challenge.rw_quietturns_k76_whole_quiet_between).prog) (w := w) KX G hmg c
    exact ⟨K, fd, QB.spLaw K, KX, hb, fun H a ns hl _ hS => ⟨a, ns, rfl, hS, fun _ => rfl⟩, hF⟩
