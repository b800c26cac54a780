import PyProof.Rows.All
import Wide.All
import OpenK.AllK
import Wide.FinOn
import HandS.ForMost
import HandS.Property
import HandS.ClsMeth
import HandS.DictComp
import HandS.SortKw
import HandS.IsInst
import HandS.Style
import HandS.Conv
import HandS.More
import HandS.Flow
import HandS.Small
import HandS.Wide
import HandS.Head0
import HandS.Head1
import HandS.Head2
import HandS.HeadEnd
import HandS.HeadHook1
import HandS.HeadHook2
import HandS.HeadNt
import HandS.Walk
import KE.KDictZip
import KE.GoesEnumKw
import HandS.Zip
import KE.KSortKey
import HandS.Slots
import PySem.Challenge.RW_chainmaps_k35_whole_renamed_maps
section
set_option Elab.async false
set_option linter.all false
set_option maxRecDepth 100000
set_option maxHeartbeats 0
namespace K35
open PySem PySem.Spec PyProof.Rows L2
def top (i : Nat) : Stmt := PySem.Challenge.pw_chainmaps_k35_whole_renamed_maps.main.body.getD i (.Pass ⟨0, 0, 0, 0⟩)
abbrev s_is_integer : Stmt := top 14
abbrev s_in_range : Stmt := top 15
abbrev s_check_size : Stmt := top 16
abbrev s_check_elements : Stmt := top 17
abbrev s_are_arrows : Stmt := top 18
abbrev s_common_size : Stmt := top 19
abbrev s_row_from : Stmt := top 20
abbrev s_moved : Stmt := top 21
abbrev s_Map_init : Stmt := inClass (top 22) 0
abbrev s_Map_identity : Stmt := inClass (top 22) 1
abbrev s_Map_size : Stmt := inClass (top 22) 6
abbrev s_Map_arrows : Stmt := inClass (top 22) 7
abbrev s_Map_mul : Stmt := inClass (top 22) 8
abbrev s_Map_invert : Stmt := inClass (top 22) 9
abbrev s_Map_power : Stmt := inClass (top 22) 10
abbrev s_Map_and : Stmt := inClass (top 22) 12
abbrev s_Map_le : Stmt := inClass (top 22) 15
abbrev s_Map_getitem : Stmt := inClass (top 22) 19
abbrev s_Map_len : Stmt := inClass (top 22) 24
abbrev s_Map_eq : Stmt := inClass (top 22) 25
abbrev s_Map_is_source : Stmt := inClass (top 22) 27
abbrev s_is_part : Stmt := top 23
abbrev s_check_map : Stmt := top 25
abbrev s_check_maps : Stmt := top 26
abbrev s_greatest_divisor : Stmt := top 28
abbrev s_largest : Stmt := top 29
abbrev s_factorial : Stmt := top 30
abbrev s_power_of : Stmt := top 31
abbrev s_parts_of : Stmt := top 32
abbrev s_are_counts : Stmt := top 33
abbrev s_ordered : Stmt := top 34
abbrev s_Shape_init : Stmt := inClass (top 38) 0
abbrev s_Shape_cycles : Stmt := inClass (top 38) 1
abbrev s_Shape_chains : Stmt := inClass (top 38) 2
abbrev s_Shape_eq : Stmt := inClass (top 38) 7
abbrev s_counts_of : Stmt := top 39
abbrev s_shape_of : Stmt := top 40
abbrev s_are_alike : Stmt := top 41
abbrev s_by_length : Stmt := top 42
abbrev s_count_symmetries : Stmt := top 43
abbrev s_is_renaming : Stmt := top 44
abbrev s_check_degree : Stmt := top 48
abbrev s_group_size : Stmt := top 49
abbrev s_failing_chains : Stmt := top 50
abbrev s_obstacle_of : Stmt := top 51
abbrev s_obstacle : Stmt := top 52
abbrev s_cycle_root : Stmt := top 53
abbrev s_chain_root : Stmt := top 54
abbrev s_chain_groups : Stmt := top 55
abbrev s_root : Stmt := top 56
abbrev s_choices : Stmt := top 57
abbrev s_count_cycle_roots : Stmt := top 58
abbrev s_ChainCounter_init : Stmt := inClass (top 59) 0
abbrev s_ChainCounter_ways : Stmt := inClass (top 59) 1
abbrev s_ChainCounter_with_first : Stmt := inClass (top 59) 2
abbrev s_count_roots : Stmt := top 60
abbrev s_commute : Stmt := top 62
abbrev s_count_commuting : Stmt := top 63
abbrev s_count_extensions : Stmt := top 64
abbrev s_common_multiple : Stmt := top 66
abbrev s_repetition_of : Stmt := top 67
abbrev s_repetition : Stmt := top 68
abbrev s_fate : Stmt := top 69
abbrev s_is_step : Stmt := top 71
abbrev s_first_invalid : Stmt := top 72
abbrev s_after_list : Stmt := top 73
abbrev s_applied : Stmt := top 74
abbrev s_link_of : Stmt := top 75
abbrev s_parts_between : Stmt := top 76
abbrev s_distance : Stmt := top 77
abbrev s_forgotten : Stmt := top 78
abbrev s_swap_of : Stmt := top 79
abbrev s_steps : Stmt := top 80
abbrev s_next_steps : Stmt := top 81
abbrev s_count_shortest : Stmt := top 82
abbrev s_law_hand : Stmt := top 84
abbrev s_law_draw : Stmt := top 85
abbrev s_law_arrows : Stmt := top 86
abbrev s_law_full : Stmt := top 87
abbrev s_law_same : Stmt := top 88
abbrev s_law_single : Stmt := top 89
abbrev s_law_steps : Stmt := top 90
abbrev s_law : Stmt := top 91
/-! addresses -/
abbrev a_is_integer (K : PySem.W.Frag) : Addr := He.ga K "is_integer"
abbrev a_in_range (K : PySem.W.Frag) : Addr := He.ga K "in_range"
abbrev a_check_size (K : PySem.W.Frag) : Addr := He.ga K "check_size"
abbrev a_check_elements (K : PySem.W.Frag) : Addr := He.ga K "check_elements"
abbrev a_are_arrows (K : PySem.W.Frag) : Addr := He.ga K "are_arrows"
abbrev a_common_size (K : PySem.W.Frag) : Addr := He.ga K "common_size"
abbrev a_row_from (K : PySem.W.Frag) : Addr := He.ga K "row_from"
abbrev a_moved (K : PySem.W.Frag) : Addr := He.ga K "moved"
abbrev a_Map_init (K : PySem.W.Frag) : Addr := He.ma K (He.ga K "Map") "__init__"
abbrev a_Map_identity (K : PySem.W.Frag) : Addr := He5.wf K (He.ga K "Map") "classmethod" "identity"
abbrev a_Map_size (K : PySem.W.Frag) : Addr := He5.wf K (He.ga K "Map") "property" "size"
abbrev a_Map_arrows (K : PySem.W.Frag) : Addr := He5.wf K (He.ga K "Map") "property" "arrows"
abbrev a_Map_mul (K : PySem.W.Frag) : Addr := He.ma K (He.ga K "Map") "__mul__"
abbrev a_Map_invert (K : PySem.W.Frag) : Addr := He.ma K (He.ga K "Map") "__invert__"
abbrev a_Map_power (K : PySem.W.Frag) : Addr := He.ma K (He.ga K "Map") "power"
abbrev a_Map_and (K : PySem.W.Frag) : Addr := He.ma K (He.ga K "Map") "__and__"
abbrev a_Map_le (K : PySem.W.Frag) : Addr := He.ma K (He.ga K "Map") "__le__"
abbrev a_Map_getitem (K : PySem.W.Frag) : Addr := He.ma K (He.ga K "Map") "__getitem__"
abbrev a_Map_len (K : PySem.W.Frag) : Addr := He.ma K (He.ga K "Map") "__len__"
abbrev a_Map_eq (K : PySem.W.Frag) : Addr := He.ma K (He.ga K "Map") "__eq__"
abbrev a_Map_is_source (K : PySem.W.Frag) : Addr := He.ma K (He.ga K "Map") "is_source"
abbrev a_is_part (K : PySem.W.Frag) : Addr := He.ga K "is_part"
abbrev a_check_map (K : PySem.W.Frag) : Addr := He.ga K "check_map"
abbrev a_check_maps (K : PySem.W.Frag) : Addr := He.ga K "check_maps"
abbrev a_greatest_divisor (K : PySem.W.Frag) : Addr := He.ga K "greatest_divisor"
abbrev a_largest (K : PySem.W.Frag) : Addr := He.ga K "largest"
abbrev a_factorial (K : PySem.W.Frag) : Addr := He.ga K "factorial"
abbrev a_power_of (K : PySem.W.Frag) : Addr := He.ga K "power_of"
abbrev a_parts_of (K : PySem.W.Frag) : Addr := He.ga K "parts_of"
abbrev a_are_counts (K : PySem.W.Frag) : Addr := He.ga K "are_counts"
abbrev a_ordered (K : PySem.W.Frag) : Addr := He.ga K "ordered"
abbrev a_Shape_init (K : PySem.W.Frag) : Addr := He.ma K (He.ga K "Shape") "__init__"
abbrev a_Shape_cycles (K : PySem.W.Frag) : Addr := He5.wf K (He.ga K "Shape") "property" "cycles"
abbrev a_Shape_chains (K : PySem.W.Frag) : Addr := He5.wf K (He.ga K "Shape") "property" "chains"
abbrev a_Shape_eq (K : PySem.W.Frag) : Addr := He.ma K (He.ga K "Shape") "__eq__"
abbrev a_counts_of (K : PySem.W.Frag) : Addr := He.ga K "counts_of"
abbrev a_shape_of (K : PySem.W.Frag) : Addr := He.ga K "shape_of"
abbrev a_are_alike (K : PySem.W.Frag) : Addr := He.ga K "are_alike"
abbrev a_by_length (K : PySem.W.Frag) : Addr := He.ga K "by_length"
abbrev a_count_symmetries (K : PySem.W.Frag) : Addr := He.ga K "count_symmetries"
abbrev a_is_renaming (K : PySem.W.Frag) : Addr := He.ga K "is_renaming"
abbrev a_check_degree (K : PySem.W.Frag) : Addr := He.ga K "check_degree"
abbrev a_group_size (K : PySem.W.Frag) : Addr := He.ga K "group_size"
abbrev a_failing_chains (K : PySem.W.Frag) : Addr := He.ga K "failing_chains"
abbrev a_obstacle_of (K : PySem.W.Frag) : Addr := He.ga K "obstacle_of"
abbrev a_obstacle (K : PySem.W.Frag) : Addr := He.ga K "obstacle"
abbrev a_cycle_root (K : PySem.W.Frag) : Addr := He.ga K "cycle_root"
abbrev a_chain_root (K : PySem.W.Frag) : Addr := He.ga K "chain_root"
abbrev a_chain_groups (K : PySem.W.Frag) : Addr := He.ga K "chain_groups"
abbrev a_root (K : PySem.W.Frag) : Addr := He.ga K "root"
abbrev a_choices (K : PySem.W.Frag) : Addr := He.ga K "choices"
abbrev a_count_cycle_roots (K : PySem.W.Frag) : Addr := He.ga K "count_cycle_roots"
abbrev a_ChainCounter_init (K : PySem.W.Frag) : Addr := He.ma K (He.ga K "ChainCounter") "__init__"
abbrev a_ChainCounter_ways (K : PySem.W.Frag) : Addr := He.ma K (He.ga K "ChainCounter") "ways"
abbrev a_ChainCounter_with_first (K : PySem.W.Frag) : Addr := He.ma K (He.ga K "ChainCounter") "with_first"
abbrev a_count_roots (K : PySem.W.Frag) : Addr := He.ga K "count_roots"
abbrev a_commute (K : PySem.W.Frag) : Addr := He.ga K "commute"
abbrev a_count_commuting (K : PySem.W.Frag) : Addr := He.ga K "count_commuting"
abbrev a_count_extensions (K : PySem.W.Frag) : Addr := He.ga K "count_extensions"
abbrev a_common_multiple (K : PySem.W.Frag) : Addr := He.ga K "common_multiple"
abbrev a_repetition_of (K : PySem.W.Frag) : Addr := He.ga K "repetition_of"
abbrev a_repetition (K : PySem.W.Frag) : Addr := He.ga K "repetition"
abbrev a_fate (K : PySem.W.Frag) : Addr := He.ga K "fate"
abbrev a_is_step (K : PySem.W.Frag) : Addr := He.ga K "is_step"
abbrev a_first_invalid (K : PySem.W.Frag) : Addr := He.ga K "first_invalid"
abbrev a_after_list (K : PySem.W.Frag) : Addr := He.ga K "after_list"
abbrev a_applied (K : PySem.W.Frag) : Addr := He.ga K "applied"
abbrev a_link_of (K : PySem.W.Frag) : Addr := He.ga K "link_of"
abbrev a_parts_between (K : PySem.W.Frag) : Addr := He.ga K "parts_between"
abbrev a_distance (K : PySem.W.Frag) : Addr := He.ga K "distance"
abbrev a_forgotten (K : PySem.W.Frag) : Addr := He.ga K "forgotten"
abbrev a_swap_of (K : PySem.W.Frag) : Addr := He.ga K "swap_of"
abbrev a_steps (K : PySem.W.Frag) : Addr := He.ga K "steps"
abbrev a_next_steps (K : PySem.W.Frag) : Addr := He.ga K "next_steps"
abbrev a_count_shortest (K : PySem.W.Frag) : Addr := He.ga K "count_shortest"
abbrev a_law_hand (K : PySem.W.Frag) : Addr := He.ga K "_law_hand"
abbrev a_law_draw (K : PySem.W.Frag) : Addr := He.ga K "_law_draw"
abbrev a_law_arrows (K : PySem.W.Frag) : Addr := He.ga K "_law_arrows"
abbrev a_law_full (K : PySem.W.Frag) : Addr := He.ga K "_law_full"
abbrev a_law_same (K : PySem.W.Frag) : Addr := He.ga K "_law_same"
abbrev a_law_single (K : PySem.W.Frag) : Addr := He.ga K "_law_single"
abbrev a_law_steps (K : PySem.W.Frag) : Addr := He.ga K "_law_steps"
abbrev a_law (K : PySem.W.Frag) : Addr := He.ga K "law"
/-! the defs as data -/
def d_is_integer : He5.DefA := ⟨a_is_integer, "is_integer", "is_integer", defArgs s_is_integer, defBody s_is_integer, defScope s_is_integer, [], []⟩
def d_in_range : He5.DefA := ⟨a_in_range, "in_range", "in_range", defArgs s_in_range, defBody s_in_range, defScope s_in_range, [], []⟩
def d_check_size : He5.DefA := ⟨a_check_size, "check_size", "check_size", defArgs s_check_size, defBody s_check_size, defScope s_check_size, [], []⟩
def d_check_elements : He5.DefA := ⟨a_check_elements, "check_elements", "check_elements", defArgs s_check_elements, defBody s_check_elements, defScope s_check_elements, [], []⟩
def d_are_arrows : He5.DefA := ⟨a_are_arrows, "are_arrows", "are_arrows", defArgs s_are_arrows, defBody s_are_arrows, defScope s_are_arrows, [], []⟩
def d_common_size : He5.DefA := ⟨a_common_size, "common_size", "common_size", defArgs s_common_size, defBody s_common_size, defScope s_common_size, [], []⟩
def d_row_from : He5.DefA := ⟨a_row_from, "row_from", "row_from", defArgs s_row_from, defBody s_row_from, defScope s_row_from, [], []⟩
def d_moved : He5.DefA := ⟨a_moved, "moved", "moved", defArgs s_moved, defBody s_moved, defScope s_moved, [], []⟩
def d_Map_init : He5.DefA := ⟨a_Map_init, "__init__", "Map.__init__", defArgs s_Map_init, defBody s_Map_init, defScope s_Map_init, [], []⟩
def d_Map_identity : He5.DefA := ⟨a_Map_identity, "identity", "Map.identity", defArgs s_Map_identity, defBody s_Map_identity, defScope s_Map_identity, [], []⟩
def d_Map_size : He5.DefA := ⟨a_Map_size, "size", "Map.size", defArgs s_Map_size, defBody s_Map_size, defScope s_Map_size, [], []⟩
def d_Map_arrows : He5.DefA := ⟨a_Map_arrows, "arrows", "Map.arrows", defArgs s_Map_arrows, defBody s_Map_arrows, defScope s_Map_arrows, [], []⟩
def d_Map_mul : He5.DefA := ⟨a_Map_mul, "__mul__", "Map.__mul__", defArgs s_Map_mul, defBody s_Map_mul, defScope s_Map_mul, [], []⟩
def d_Map_invert : He5.DefA := ⟨a_Map_invert, "__invert__", "Map.__invert__", defArgs s_Map_invert, defBody s_Map_invert, defScope s_Map_invert, [], []⟩
def d_Map_power : He5.DefA := ⟨a_Map_power, "power", "Map.power", defArgs s_Map_power, defBody s_Map_power, defScope s_Map_power, [], []⟩
def d_Map_and : He5.DefA := ⟨a_Map_and, "__and__", "Map.__and__", defArgs s_Map_and, defBody s_Map_and, defScope s_Map_and, [], []⟩
def d_Map_le : He5.DefA := ⟨a_Map_le, "__le__", "Map.__le__", defArgs s_Map_le, defBody s_Map_le, defScope s_Map_le, [], []⟩
def d_Map_getitem : He5.DefA := ⟨a_Map_getitem, "__getitem__", "Map.__getitem__", defArgs s_Map_getitem, defBody s_Map_getitem, defScope s_Map_getitem, [], []⟩
def d_Map_len : He5.DefA := ⟨a_Map_len, "__len__", "Map.__len__", defArgs s_Map_len, defBody s_Map_len, defScope s_Map_len, [], []⟩
def d_Map_eq : He5.DefA := ⟨a_Map_eq, "__eq__", "Map.__eq__", defArgs s_Map_eq, defBody s_Map_eq, defScope s_Map_eq, [], []⟩
def d_Map_is_source : He5.DefA := ⟨a_Map_is_source, "is_source", "Map.is_source", defArgs s_Map_is_source, defBody s_Map_is_source, defScope s_Map_is_source, [], []⟩
def d_is_part : He5.DefA := ⟨a_is_part, "is_part", "is_part", defArgs s_is_part, defBody s_is_part, defScope s_is_part, [], []⟩
def d_check_map : He5.DefA := ⟨a_check_map, "check_map", "check_map", defArgs s_check_map, defBody s_check_map, defScope s_check_map, [], []⟩
def d_check_maps : He5.DefA := ⟨a_check_maps, "check_maps", "check_maps", defArgs s_check_maps, defBody s_check_maps, defScope s_check_maps, [], []⟩
def d_greatest_divisor : He5.DefA := ⟨a_greatest_divisor, "greatest_divisor", "greatest_divisor", defArgs s_greatest_divisor, defBody s_greatest_divisor, defScope s_greatest_divisor, [], []⟩
def d_largest : He5.DefA := ⟨a_largest, "largest", "largest", defArgs s_largest, defBody s_largest, defScope s_largest, [], []⟩
def d_factorial : He5.DefA := ⟨a_factorial, "factorial", "factorial", defArgs s_factorial, defBody s_factorial, defScope s_factorial, [], []⟩
def d_power_of : He5.DefA := ⟨a_power_of, "power_of", "power_of", defArgs s_power_of, defBody s_power_of, defScope s_power_of, [], []⟩
def d_parts_of : He5.DefA := ⟨a_parts_of, "parts_of", "parts_of", defArgs s_parts_of, defBody s_parts_of, defScope s_parts_of, [], []⟩
def d_are_counts : He5.DefA := ⟨a_are_counts, "are_counts", "are_counts", defArgs s_are_counts, defBody s_are_counts, defScope s_are_counts, [], []⟩
def d_ordered : He5.DefA := ⟨a_ordered, "ordered", "ordered", defArgs s_ordered, defBody s_ordered, defScope s_ordered, [], []⟩
def d_Shape_init : He5.DefA := ⟨a_Shape_init, "__init__", "Shape.__init__", defArgs s_Shape_init, defBody s_Shape_init, defScope s_Shape_init, [], []⟩
def d_Shape_cycles : He5.DefA := ⟨a_Shape_cycles, "cycles", "Shape.cycles", defArgs s_Shape_cycles, defBody s_Shape_cycles, defScope s_Shape_cycles, [], []⟩
def d_Shape_chains : He5.DefA := ⟨a_Shape_chains, "chains", "Shape.chains", defArgs s_Shape_chains, defBody s_Shape_chains, defScope s_Shape_chains, [], []⟩
def d_Shape_eq : He5.DefA := ⟨a_Shape_eq, "__eq__", "Shape.__eq__", defArgs s_Shape_eq, defBody s_Shape_eq, defScope s_Shape_eq, [], []⟩
def d_counts_of : He5.DefA := ⟨a_counts_of, "counts_of", "counts_of", defArgs s_counts_of, defBody s_counts_of, defScope s_counts_of, [], []⟩
def d_shape_of : He5.DefA := ⟨a_shape_of, "shape_of", "shape_of", defArgs s_shape_of, defBody s_shape_of, defScope s_shape_of, [], []⟩
def d_are_alike : He5.DefA := ⟨a_are_alike, "are_alike", "are_alike", defArgs s_are_alike, defBody s_are_alike, defScope s_are_alike, [], []⟩
def d_by_length : He5.DefA := ⟨a_by_length, "by_length", "by_length", defArgs s_by_length, defBody s_by_length, defScope s_by_length, [], []⟩
def d_count_symmetries : He5.DefA := ⟨a_count_symmetries, "count_symmetries", "count_symmetries", defArgs s_count_symmetries, defBody s_count_symmetries, defScope s_count_symmetries, [], []⟩
def d_is_renaming : He5.DefA := ⟨a_is_renaming, "is_renaming", "is_renaming", defArgs s_is_renaming, defBody s_is_renaming, defScope s_is_renaming, [], []⟩
def d_check_degree : He5.DefA := ⟨a_check_degree, "check_degree", "check_degree", defArgs s_check_degree, defBody s_check_degree, defScope s_check_degree, [], []⟩
def d_group_size : He5.DefA := ⟨a_group_size, "group_size", "group_size", defArgs s_group_size, defBody s_group_size, defScope s_group_size, [], []⟩
def d_failing_chains : He5.DefA := ⟨a_failing_chains, "failing_chains", "failing_chains", defArgs s_failing_chains, defBody s_failing_chains, defScope s_failing_chains, [], []⟩
def d_obstacle_of : He5.DefA := ⟨a_obstacle_of, "obstacle_of", "obstacle_of", defArgs s_obstacle_of, defBody s_obstacle_of, defScope s_obstacle_of, [], []⟩
def d_obstacle : He5.DefA := ⟨a_obstacle, "obstacle", "obstacle", defArgs s_obstacle, defBody s_obstacle, defScope s_obstacle, [], []⟩
def d_cycle_root : He5.DefA := ⟨a_cycle_root, "cycle_root", "cycle_root", defArgs s_cycle_root, defBody s_cycle_root, defScope s_cycle_root, [], []⟩
def d_chain_root : He5.DefA := ⟨a_chain_root, "chain_root", "chain_root", defArgs s_chain_root, defBody s_chain_root, defScope s_chain_root, [], []⟩
def d_chain_groups : He5.DefA := ⟨a_chain_groups, "chain_groups", "chain_groups", defArgs s_chain_groups, defBody s_chain_groups, defScope s_chain_groups, [], []⟩
def d_root : He5.DefA := ⟨a_root, "root", "root", defArgs s_root, defBody s_root, defScope s_root, [], []⟩
def d_choices : He5.DefA := ⟨a_choices, "choices", "choices", defArgs s_choices, defBody s_choices, defScope s_choices, [], []⟩
def d_count_cycle_roots : He5.DefA := ⟨a_count_cycle_roots, "count_cycle_roots", "count_cycle_roots", defArgs s_count_cycle_roots, defBody s_count_cycle_roots, defScope s_count_cycle_roots, [], []⟩
def d_ChainCounter_init : He5.DefA := ⟨a_ChainCounter_init, "__init__", "ChainCounter.__init__", defArgs s_ChainCounter_init, defBody s_ChainCounter_init, defScope s_ChainCounter_init, [], []⟩
def d_ChainCounter_ways : He5.DefA := ⟨a_ChainCounter_ways, "ways", "ChainCounter.ways", defArgs s_ChainCounter_ways, defBody s_ChainCounter_ways, defScope s_ChainCounter_ways, [], []⟩
def d_ChainCounter_with_first : He5.DefA := ⟨a_ChainCounter_with_first, "with_first", "ChainCounter.with_first", defArgs s_ChainCounter_with_first, defBody s_ChainCounter_with_first, defScope s_ChainCounter_with_first, [], []⟩
def d_count_roots : He5.DefA := ⟨a_count_roots, "count_roots", "count_roots", defArgs s_count_roots, defBody s_count_roots, defScope s_count_roots, [], []⟩
def d_commute : He5.DefA := ⟨a_commute, "commute", "commute", defArgs s_commute, defBody s_commute, defScope s_commute, [], []⟩
def d_count_commuting : He5.DefA := ⟨a_count_commuting, "count_commuting", "count_commuting", defArgs s_count_commuting, defBody s_count_commuting, defScope s_count_commuting, [], []⟩
def d_count_extensions : He5.DefA := ⟨a_count_extensions, "count_extensions", "count_extensions", defArgs s_count_extensions, defBody s_count_extensions, defScope s_count_extensions, [], []⟩
def d_common_multiple : He5.DefA := ⟨a_common_multiple, "common_multiple", "common_multiple", defArgs s_common_multiple, defBody s_common_multiple, defScope s_common_multiple, [], []⟩
def d_repetition_of : He5.DefA := ⟨a_repetition_of, "repetition_of", "repetition_of", defArgs s_repetition_of, defBody s_repetition_of, defScope s_repetition_of, [], []⟩
def d_repetition : He5.DefA := ⟨a_repetition, "repetition", "repetition", defArgs s_repetition, defBody s_repetition, defScope s_repetition, [], []⟩
def d_fate : He5.DefA := ⟨a_fate, "fate", "fate", defArgs s_fate, defBody s_fate, defScope s_fate, [], []⟩
def d_is_step : He5.DefA := ⟨a_is_step, "is_step", "is_step", defArgs s_is_step, defBody s_is_step, defScope s_is_step, [], []⟩
def d_first_invalid : He5.DefA := ⟨a_first_invalid, "first_invalid", "first_invalid", defArgs s_first_invalid, defBody s_first_invalid, defScope s_first_invalid, [], []⟩
def d_after_list : He5.DefA := ⟨a_after_list, "after_list", "after_list", defArgs s_after_list, defBody s_after_list, defScope s_after_list, [], []⟩
def d_applied : He5.DefA := ⟨a_applied, "applied", "applied", defArgs s_applied, defBody s_applied, defScope s_applied, [], []⟩
def d_link_of : He5.DefA := ⟨a_link_of, "link_of", "link_of", defArgs s_link_of, defBody s_link_of, defScope s_link_of, [], []⟩
def d_parts_between : He5.DefA := ⟨a_parts_between, "parts_between", "parts_between", defArgs s_parts_between, defBody s_parts_between, defScope s_parts_between, [], []⟩
def d_distance : He5.DefA := ⟨a_distance, "distance", "distance", defArgs s_distance, defBody s_distance, defScope s_distance, [], []⟩
def d_forgotten : He5.DefA := ⟨a_forgotten, "forgotten", "forgotten", defArgs s_forgotten, defBody s_forgotten, defScope s_forgotten, [], []⟩
def d_swap_of : He5.DefA := ⟨a_swap_of, "swap_of", "swap_of", defArgs s_swap_of, defBody s_swap_of, defScope s_swap_of, [], []⟩
def d_steps : He5.DefA := ⟨a_steps, "steps", "steps", defArgs s_steps, defBody s_steps, defScope s_steps, [], []⟩
def d_next_steps : He5.DefA := ⟨a_next_steps, "next_steps", "next_steps", defArgs s_next_steps, defBody s_next_steps, defScope s_next_steps, [], []⟩
def d_count_shortest : He5.DefA := ⟨a_count_shortest, "count_shortest", "count_shortest", defArgs s_count_shortest, defBody s_count_shortest, defScope s_count_shortest, [], []⟩
def d_law_hand : He5.DefA := ⟨a_law_hand, "_law_hand", "_law_hand", defArgs s_law_hand, defBody s_law_hand, defScope s_law_hand, [], []⟩
def d_law_draw : He5.DefA := ⟨a_law_draw, "_law_draw", "_law_draw", defArgs s_law_draw, defBody s_law_draw, defScope s_law_draw, [], []⟩
def d_law_arrows : He5.DefA := ⟨a_law_arrows, "_law_arrows", "_law_arrows", defArgs s_law_arrows, defBody s_law_arrows, defScope s_law_arrows, [], []⟩
def d_law_full : He5.DefA := ⟨a_law_full, "_law_full", "_law_full", defArgs s_law_full, defBody s_law_full, defScope s_law_full, [], []⟩
def d_law_same : He5.DefA := ⟨a_law_same, "_law_same", "_law_same", defArgs s_law_same, defBody s_law_same, defScope s_law_same, [], []⟩
def d_law_single : He5.DefA := ⟨a_law_single, "_law_single", "_law_single", defArgs s_law_single, defBody s_law_single, defScope s_law_single, [], []⟩
def d_law_steps : He5.DefA := ⟨a_law_steps, "_law_steps", "_law_steps", defArgs s_law_steps, defBody s_law_steps, defScope s_law_steps, [], []⟩
def d_law : He5.DefA := ⟨a_law, "law", "law", defArgs s_law, defBody s_law, defScope s_law, [], []⟩
def fn0 : List He5.DefA := [d_is_integer, d_in_range, d_check_size, d_check_elements, d_are_arrows, d_common_size, d_row_from, d_moved, d_Map_init, d_Map_identity, d_Map_size, d_Map_arrows, d_Map_mul, d_Map_invert, d_Map_power, d_Map_and, d_Map_le, d_Map_getitem, d_Map_len, d_Map_eq, d_Map_is_source, d_is_part, d_check_map, d_check_maps, d_greatest_divisor, d_largest, d_factorial, d_power_of, d_parts_of, d_are_counts]
def fn1 : List He5.DefA := [d_ordered, d_Shape_init, d_Shape_cycles, d_Shape_chains, d_Shape_eq, d_counts_of, d_shape_of, d_are_alike, d_by_length, d_count_symmetries, d_is_renaming, d_check_degree, d_group_size, d_failing_chains, d_obstacle_of, d_obstacle, d_cycle_root, d_chain_root, d_chain_groups, d_root, d_choices, d_count_cycle_roots, d_ChainCounter_init, d_ChainCounter_ways, d_ChainCounter_with_first, d_count_roots, d_commute, d_count_commuting, d_count_extensions, d_common_multiple]
def fn2 : List He5.DefA := [d_repetition_of, d_repetition, d_fate, d_is_step, d_first_invalid, d_after_list, d_applied, d_link_of, d_parts_between, d_distance, d_forgotten, d_swap_of, d_steps, d_next_steps, d_count_shortest, d_law_hand, d_law_draw, d_law_arrows, d_law_full, d_law_same, d_law_single, d_law_steps, d_law]
def fnL : List He5.DefA := fn0 ++ fn1 ++ fn2
/-! facts -/
def fa0 : List He.Fa := [.glo "is_integer", .keep "is_integer", .glo "in_range", .keep "in_range", .glo "check_size", .keep "check_size", .glo "check_elements", .keep "check_elements", .glo "are_arrows", .keep "are_arrows", .glo "common_size", .keep "common_size", .glo "row_from", .keep "row_from", .glo "moved", .keep "moved", .glo "is_part", .keep "is_part", .glo "check_map", .keep "check_map", .glo "check_maps", .keep "check_maps", .glo "greatest_divisor", .keep "greatest_divisor", .glo "largest", .keep "largest", .glo "factorial", .keep "factorial", .glo "power_of", .keep "power_of"]
def fa1 : List He.Fa := [.glo "parts_of", .keep "parts_of", .glo "are_counts", .keep "are_counts", .glo "ordered", .keep "ordered", .glo "counts_of", .keep "counts_of", .glo "shape_of", .keep "shape_of", .glo "are_alike", .keep "are_alike", .glo "by_length", .keep "by_length", .glo "count_symmetries", .keep "count_symmetries", .glo "is_renaming", .keep "is_renaming", .glo "check_degree", .keep "check_degree", .glo "group_size", .keep "group_size", .glo "failing_chains", .keep "failing_chains", .glo "obstacle_of", .keep "obstacle_of", .glo "obstacle", .keep "obstacle", .glo "cycle_root", .keep "cycle_root"]
def fa2 : List He.Fa := [.glo "chain_root", .keep "chain_root", .glo "chain_groups", .keep "chain_groups", .glo "root", .keep "root", .glo "choices", .keep "choices", .glo "count_cycle_roots", .keep "count_cycle_roots", .glo "count_roots", .keep "count_roots", .glo "commute", .keep "commute", .glo "count_commuting", .keep "count_commuting", .glo "count_extensions", .keep "count_extensions", .glo "common_multiple", .keep "common_multiple", .glo "repetition_of", .keep "repetition_of", .glo "repetition", .keep "repetition", .glo "fate", .keep "fate", .glo "is_step", .keep "is_step", .glo "first_invalid", .keep "first_invalid"]
def fa3 : List He.Fa := [.glo "after_list", .keep "after_list", .glo "applied", .keep "applied", .glo "link_of", .keep "link_of", .glo "parts_between", .keep "parts_between", .glo "distance", .keep "distance", .glo "forgotten", .keep "forgotten", .glo "swap_of", .keep "swap_of", .glo "steps", .keep "steps", .glo "next_steps", .keep "next_steps", .glo "count_shortest", .keep "count_shortest", .glo "_law_hand", .keep "_law_hand", .glo "_law_draw", .keep "_law_draw", .glo "_law_arrows", .keep "_law_arrows", .glo "_law_full", .keep "_law_full", .glo "_law_same", .keep "_law_same"]
def fa4 : List He.Fa := [.glo "_law_single", .keep "_law_single", .glo "_law_steps", .keep "_law_steps", .glo "law", .keep "law", .glo "Map", .cls "Map", .mkr "Map", .keep "Map", .glo "Shape", .cls "Shape", .mkr "Shape", .keep "Shape", .glo "ChainCounter", .cls "ChainCounter", .mkr "ChainCounter", .keep "ChainCounter", .free "isinstance", .free "int", .free "bool", .free "dict", .free "range", .free "len", .free "list", .free "zip", .free "sorted", .free "all", .free "abs", .free "min"]
def fa5 : List He.Fa := [.free "max", .free "tuple", .free "str", .free "enumerate", .free "classmethod", .free "property", .free "ValueError", .int "MAX_SIZE" 300, .int "MAX_COUNTED" 40, .int "MAX_DEGREE" 1000000000000000000000000000000, .noat "Map" "own_size", .noat "Map" "own_arrows", .noat "Shape" "own_cycles", .noat "Shape" "own_chains", .noat "ChainCounter" "own_chains", .noat "ChainCounter" "own_degree", .noat "ChainCounter" "own_known", .meth "Map" "__init__", .meth "Map" "__mul__", .meth "Map" "__invert__", .meth "Map" "power", .meth "Map" "__and__", .meth "Map" "__le__", .meth "Map" "__getitem__", .meth "Map" "__len__", .meth "Map" "__eq__", .meth "Map" "is_source", .meth "Shape" "__init__", .meth "Shape" "__eq__", .meth "ChainCounter" "__init__"]
def fa6 : List He.Fa := [.meth "ChainCounter" "ways", .meth "ChainCounter" "with_first"]
def faL : List He.Fa := fa0 ++ fa1 ++ fa2 ++ fa3 ++ fa4 ++ fa5 ++ fa6
def nm0 : List PySem.Str := ["_wall", "InvalidMap", "InvalidSize", "InvalidElement", "InvalidShape", "InvalidNumber", "InvalidSteps", "SizeMismatch", "Clash", "Undefined", "LimitExceeded", "MAX_SIZE", "is_integer", "in_range", "check_size", "check_elements", "are_arrows", "common_size", "row_from", "moved", "Map", "is_part", "first_clash", "check_map", "check_maps", "greatest_divisor", "largest", "factorial", "power_of", "parts_of"]
def nm1 : List PySem.Str := ["are_counts", "ordered", "merged", "cycle_powers", "chain_powers", "Shape", "counts_of", "shape_of", "are_alike", "by_length", "count_symmetries", "is_renaming", "MAX_DEGREE", "MAX_COUNTED", "check_degree", "group_size", "failing_chains", "obstacle_of", "obstacle", "cycle_root", "chain_root", "chain_groups", "root", "choices", "count_cycle_roots", "ChainCounter", "count_roots", "commute", "count_commuting", "count_extensions"]
def nm2 : List PySem.Str := ["common_multiple", "repetition_of", "repetition", "fate", "is_step", "first_invalid", "after_list", "applied", "link_of", "parts_between", "distance", "forgotten", "swap_of", "steps", "next_steps", "count_shortest", "_law_hand", "_law_draw", "_law_arrows", "_law_full", "_law_same", "_law_single", "_law_steps"]
def nmL : List PySem.Str := nm0 ++ nm1 ++ nm2
def lawI : Nat := 91
end K35
end

section
set_option Elab.async false
set_option linter.all false
set_option maxRecDepth 100000
set_option maxHeartbeats 0
namespace K35
open PySem PySem.Spec PyProof.Rows L2
/-! what the head looks at: a small written part of the heap -/
def rfV : Value → List Addr
  | .ref a => [a]
  | _ => []
/-- a dict's values -/
def rfD (o : Option Obj) : List Addr := match o with
  | some ⟨_, _, .dict es _, _⟩ => es.toList.flatMap fun e => rfV e.val
  | _ => []
/-- a def's code, a class's names, a record's parts -/
def rfN (o : Option Obj) : List Addr := match o with
  | some ⟨_, _, .func fd, _⟩ => rfV fd.code
  | some ⟨_, _, .cls cd, _⟩ => [cd.ns]
  | _ => []
def rfC (o : Option Obj) : List Addr := match o with
  | some ⟨_, _, .cls cd, _⟩ => [cd.ns]
  | _ => []
def rfR (o : Option Obj) : List Addr := match o with
  | some ⟨.type n, _, .fields vs, _⟩ => if n == "property" || n == "classmethod" then vs.toList.flatMap rfV else []
  | _ => []
def goK (g : Addr → Option Obj) : List Addr :=
  let l1 := rfD (g mainGlobals)
  let l3 := (l1.flatMap fun a => rfC (g a)).flatMap fun n => rfD (g n)
  let l4 := l3.flatMap fun a => rfR (g a)
  mainGlobals :: cStatics :: (l1 ++ (l1.flatMap fun a => rfN (g a)) ++ l3 ++ (l3.flatMap fun a => rfN (g a)) ++ l4 ++ l4.flatMap fun a => rfN (g a))
/-! further facts: properties, the classmethod, comparisons -/
def bProp (C f : PySem.Str) (K : PySem.W.Frag) : Bool :=
  He.eqO (PySem.W.findIn K (.ref (He.ga K C)) f) (some (some (.ref (He.ma K (He.ga K C) f)))) && (He.eqO (PySem.W.specialIn K (.ref (He.ma K (He.ga K C) f)) "__get__") (some (some (.builtin "property.__get__"))) && (decide (PySem.W.takesIn K (.ref (He.ma K (He.ga K C) f)) = some true) && (match PySem.W.recIn K (He.ma K (He.ga K C) f) "property" with
    | some (.ref _ :: _) => true
    | _ => false)))
theorem bProp_ok {K : PySem.W.Frag} {C f : PySem.Str} (h : bProp C f K = true) : PropOf K (He.ga K C) f (He.ma K (He.ga K C) f) (He5.wf K (He.ga K C) "property" f) := by
  obtain ⟨h1, h⟩ := He.ba h
  obtain ⟨h2, h⟩ := He.ba h
  obtain ⟨h3, h4⟩ := He.ba h
  refine ⟨He.eqO_ok h1, He.eqO_ok h2, of_decide_eq_true h3, ?_⟩
  unfold He5.wf
  split at h4
  · rename_i f r e
    exact ⟨r, by rw [e]⟩
  · cases h4
def bCls (C : PySem.Str) (K : PySem.W.Frag) : Bool :=
  He.eqO (PySem.W.findIn K (.ref (He.ga K C)) "__class__") (some (some (.builtin "object.__class__"))) && (He.eqO (PySem.W.specialIn K (.builtin "object.__class__") "__get__") (some (some (.builtin "getset_descriptor.__get__"))) && (decide (PySem.W.takesIn K (.builtin "object.__class__") = some true) && decide (PySem.W.mroIn K (He.ga K C) (.type "object") = some true)))
def bCm (C f : PySem.Str) (K : PySem.W.Frag) : Bool :=
  PySem.W.readsIn K (He.ga K C) (.type "type") && (He.eqO (PySem.W.specialIn K (.ref (He.ga K C)) "__getattribute__") (some (some (.builtin "type.__getattribute__"))) && (He5.wrapB K (He.ga K C) "classmethod" "classmethod.__get__" f && PySem.W.fnIn K (He5.wf K (He.ga K C) "classmethod" f)))
def exL : List (PySem.W.Frag → Bool) := [bProp "Map" "size", bProp "Map" "arrows", bProp "Shape" "cycles", bProp "Shape" "chains", bCls "Map", bCls "Shape", bCm "Map" "identity",
  fun K => PySem.W.selfFirst K (He.ga K "Map"), fun K => He.eqO (PySem.W.findIn K (.ref (He.ga K "Shape")) "__ne__") (some (some (.builtin "object.__ne__"))), fun K => PySem.W.fnIn K (a_Map_getitem K)]
def exB (K : PySem.W.Frag) : Bool := exL.all fun f => f K
structure Says (K : PySem.W.Frag) : Prop where
  a : He5.SaysA faL fnL K
  x : exB K = true
theorem Says.ex {K : PySem.W.Frag} (c : Says K) (i : Nat) {f : PySem.W.Frag → Bool} (h : exL[i]? = some f := by rfl) : f K = true := List.all_eq_true.mp c.x f (List.mem_of_getElem? h)
def obsK1 (fa : List He.Fa) (fn : List He5.DefA) (K : PySem.W.Frag) : He.AlD := ((He5.obsA fa fn K).1 && exB K, (He5.obsA fa fn K).2)
theorem obsK1_ok {K : PySem.W.Frag} (e : obsK1 faL fnL K = He5.valA fnL) : Says K := by
  have e1 := congrArg (fun z : He.AlD => z.1) e
  have e2 := congrArg (fun z : He.AlD => z.2) e
  obtain ⟨a, b⟩ := He.ba (show ((He5.obsA faL fnL K).1 && exB K) = true from e1)
  exact ⟨Prod.ext a e2, b⟩
def obsK (fa : List He.Fa) (fn : List He5.DefA) (g : Addr → Option Obj) : He.AlD := obsK1 fa fn (He.frG g (goK g))
def hookK (fa : List He.Fa) (fn : List He5.DefA) : PySem.W.Hook where
  α := He.AlD
  obs := fun s => obsK fa fn s.heap.get?
  val := fun _ => He5.valA fn
  says := fun _ h => ∃ K : PySem.W.Frag, K.In h ∧ obsK1 fa fn K = He5.valA fn
  of := fun _ _ e => ⟨_, He.frG_in, e⟩
  keeps := fun _ _ _ ⟨K, hK, c⟩ k => ⟨K, PySem.W.Frag.In.keeps hK k, c⟩
theorem obsK_eq {fa : List He.Fa} {fn : List He5.DefA} {g : Addr → Option Obj} {s : Shared} (h : ∀ a, g a = s.heap.get? a) : obsK fa fn g = (hookK fa fn).obs s := by
  have e : g = s.heap.get? := funext h
  rw [e] <;> rfl
abbrev R : PySem.W.OpenRow := PySem.W.OpenLaw.row PySem.Challenge.rw_chainmaps_k35_whole_renamed_maps
abbrev hk : PySem.W.Hook := hookK faL fnL
def ob (s : PySem.W.SharedT) : He.AlD := obsK faL fnL (HandSHeadRun.getT s)
theorem ob_eq (s : PySem.W.SharedT) : ob s = hk.obs s.abs := obsK_eq (HandSHeadRun.getT_eq s)
theorem run (w : World) : HandSHeadRun.RunEq R (PySem.W.view R.prog [lawI]) hk ob 40000 nmL w := by
  intro os
  kernel_rfl
end K35
end

section
set_option Elab.async false
set_option linter.all false
set_option maxRecDepth 100000
set_option maxHeartbeats 4000000
/-! K2: own operators, own subscripts, own len, own == and != as rules over the layer. -/
namespace K35
open PySem PySem.Spec PyProof.Rows L2
section
variable {X : Cx} {CX : CXT} {k : Nat} {a b C dx f : Addr} {fd : FuncData} {ps : List Str} {sp : Sp} {E : XK} {pins : List (Addr × Obj)} {σ : L2.St} {H : Hp} {s : Shared} {fs : List (Str × V)}
theorem inst_look (I : Inv X pins σ H s) (e : H a = some (.ins C dx fs)) : ∃ od, PySem.W.InstAt s.heap a (PySem.W.instObj C dx) C (some od) := by
  obtain ⟨mA, O, _⟩ := ins_get I.hok e
  obtain ⟨od, J, _⟩ := O.look
  exact ⟨od, J⟩
theorem rel_cmp {Q : Value → Shared → Prop} {v : V} {u : Value} {s' : Shared} (r : RelV v u) (q : Q u s') : PySem.W.CmpBack Q u s' := by
  cases v with
  | non => cases (show u = Value.none from r); exact q
  | bl i => cases (show u = Value.bool i from r); exact q
  | int i => obtain ⟨t, e⟩ := (show ∃ t, u = Value.int i t from r); subst e; exact q
  | str i => obtain ⟨t, e⟩ := (show ∃ t, u = Value.str i t from r); subst e; exact q
  | byt i => obtain ⟨t, e⟩ := (show ∃ t, u = Value.bytes i t from r); subst e; exact q
  | flt i => obtain ⟨t, e⟩ := (show ∃ t, u = Value.float i t from r); subst e; exact q
  | ref i => cases (show u = Value.ref i from r); exact q
  | ty i => cases (show u = Value.type i from r); exact q
/-- a call one builtin deeper -/
theorem run_in1 {Q : VK} {us : List Value} {vs : List V} (F : FnOk X.prog X.w X.K X.mg X.base CX k f fd ps sp) (hr : Room (k + 1) X.A) (hb : Binds X.K fd ps []) (hx : Passes CX X E)
    (I : Inv X pins σ H s) (r : Vals vs us) (h : sp vs H Q E) : wpAny (model X.prog X.w) X.A.in1 (call (.ref f) us) (EP X pins σ Q) X.xe s := by
  have n : us.length = ps.length := by
    rw [← r.length]
    exact F.len _ _ _ _ h
  have bt := hb s us I.kIn (by rw [List.append_nil]; exact n)
  rw [List.append_nil] at bt
  refine wpAny_call (codeAny_mono (F.run X.A.in1 X.stack s H ⟨us, []⟩ us vs Q E hr.in1 I.env0.in1 bt r h) fun res s' w => ?_)
  match res, w with
  | .error e, w => exact hx pins σ H s e s' I w
  | .ok (.ret u), w => exact I.after w
  | .ok .next, w => exact w.elim
  | .ok .brk, w => exact w.elim
  | .ok .cont, w => exact w.elim
/-- .. at a body's own depth -/
theorem run_at {Q : VK} {us : List Value} {vs : List V} (F : FnOk X.prog X.w X.K X.mg X.base CX k f fd ps sp) (hr : Room k X.A) (hb : Binds X.K fd ps []) (hx : Passes CX X E)
    (I : Inv X pins σ H s) (r : Vals vs us) (h : sp vs H Q E) : wpAny (model X.prog X.w) X.A (call (.ref f) us) (EP X pins σ Q) X.xe s :=
  run_fn (dvs := []) (ds := []) F hr hb .nil hx I r (by rw [List.append_nil]; exact h)

/-- two instances of the class at C, the def's promise -/
def rOwn (C : Addr) (sp : Sp) (E : XK) : R2 := fun x y H Q => ∃ a b dx dy fs gs, x = .ref a ∧ y = .ref b ∧ H a = some (.ins C dx fs) ∧ H b = some (.ins C dy gs) ∧ sp [.ref a, .ref b] H Q E
theorem op_own {op : Operator} (F : FnOk X.prog X.w X.K X.mg X.base CX k f fd ps sp) (hr : Room k X.A) (hb : Binds X.K fd ps []) (hx : Passes CX X E)
    (sf : PySem.W.selfFirst X.K C = true) (hs : PySem.W.findIn X.K (.ref C) (PySem.dunder op.info.2) = some (some (.ref f))) (hf : PySem.W.isFn X.K (.ref f) = true) : OpR X (binaryOp op) (rOwn C sp E) := by
  rintro pins s σ H x y v u Q I rx ry ⟨a, b, dx, dy, fs, gs, rfl, rfl, ha, hb', h⟩
  cases rx
  cases ry
  obtain ⟨od, J⟩ := inst_look I ha
  obtain ⟨od', J'⟩ := inst_look I hb'
  obtain ⟨m, hF⟩ := I.fr
  refine PySem.W.binop_K hF I.ok.mod.kin J J'.type sf hs hf (thn (run_at (vs := [.ref a, .ref b]) F hr hb hx I (.cons rfl (.cons rfl .nil)) h) fun u s' w => ?_)
  obtain ⟨v, H', I', rv, q⟩ := w
  exact rel_cmp rv ⟨v, H', I', rv, q⟩
theorem cmp_own {op : CmpOp} (F : FnOk X.prog X.w X.K X.mg X.base CX k f fd ps sp) (hr : Room k X.A) (hb : Binds X.K fd ps []) (hx : Passes CX X E)
    (hs : PySem.W.findIn X.K (.ref C) (cmpInfo op).2.1 = some (some (.ref f))) (hf : PySem.W.isFn X.K (.ref f) = true) (ho : ∀ v u, compareOp op v u = richCompare op v u := by intro _ _; rfl) : OpR X (compareOp op) (rOwn C sp E) := by
  rintro pins s σ H x y v u Q I rx ry ⟨a, b, dx, dy, fs, gs, rfl, rfl, ha, hb', h⟩
  cases rx
  cases ry
  obtain ⟨od, J⟩ := inst_look I ha
  obtain ⟨od', J'⟩ := inst_look I hb'
  obtain ⟨m, hF⟩ := I.fr
  rw [ho]
  refine PySem.W.cmp_K hr.units0 hF I.ok.mod.kin J J'.type (by simp [PySem.W.notFirst]) hs hf (thn (run_at (vs := [.ref a, .ref b]) F hr hb hx I (.cons rfl (.cons rfl .nil)) h) fun u s' w => ?_)
  obtain ⟨v, H', I', rv, q⟩ := w
  exact rel_cmp rv ⟨v, H', I', rv, q⟩
/-- ~x -/
theorem un_own (F : FnOk X.prog X.w X.K X.mg X.base CX k f fd ps sp) (hr : Room k X.A) (hb : Binds X.K fd ps []) (hx : Passes CX X E)
    (hs : PySem.W.findIn X.K (.ref C) "__invert__" = some (some (.ref f))) (hf : PySem.W.isFn X.K (.ref f) = true) :
    UnR X (unaryOp .Invert) (fun x H Q => ∃ a dx fs, x = .ref a ∧ H a = some (.ins C dx fs) ∧ sp [.ref a] H Q E) := by
  rintro pins s σ H x v Q I rx ⟨a, dx, fs, rfl, ha, h⟩
  cases rx
  obtain ⟨od, J⟩ := inst_look I ha
  obtain ⟨m, hF⟩ := I.fr
  exact PySem.W.ksp_inv hF I.ok.mod.kin J hs hf (run_at (vs := [.ref a]) F hr hb hx I (.cons rfl .nil) h)
/-- len(x): the def hands back a small int -/
theorem len_own (F : FnOk X.prog X.w X.K X.mg X.base CX k f fd ps sp) (hr : Room (k + 1) X.A) (hb : Binds X.K fd ps []) (hx : Passes CX X E)
    (hs : PySem.W.findIn X.K (.ref C) "__len__" = some (some (.ref f))) (hf : PySem.W.isFn X.K (.ref f) = true) :
    CallR X (.builtin "len") (fun xs H Q => ∃ a dx fs, xs = [.ref a] ∧ H a = some (.ins C dx fs) ∧ sp [.ref a] H (fun v H' => ∃ n : Int, v = .int n ∧ 0 ≤ n ∧ n < 2 ^ 63 ∧ Q (.int n) H') E) := by
  rintro pins s σ H xs us Q I r ⟨a, dx, fs, rfl, ha, h⟩
  obtain ⟨u, rfl, r1⟩ := vals1 r
  cases r1
  obtain ⟨od, J⟩ := inst_look I ha
  obtain ⟨m, hF⟩ := I.fr
  refine PySem.W.len_K hF I.ok.mod.kin J hs hf (thn (run_in1 (vs := [.ref a]) F hr hb hx I (.cons rfl .nil) h) fun u s' w => ?_)
  obtain ⟨v, H', I', rv, n, rfl, h0, h1, q⟩ := w
  obtain ⟨t, rfl⟩ := rv
  exact ⟨⟨h0, h1⟩, .int n, H', I'.tok _, ⟨_, rfl⟩, q⟩
/-- x[i] by an own __getitem__ -/
theorem pe_sub_own {o i : Expr} {ta ti : TE} {pos : Pos} (F : FnOk X.prog X.w X.K X.mg X.base CX k f fd ps sp) (hr : Room (k + 1) X.A) (hb : Binds X.K fd ps []) (hx : Passes CX X E)
    (hs : PySem.W.findIn X.K (.ref C) "__getitem__" = some (some (.ref f))) (hf : PySem.W.fnIn X.K f = true) (hfn : PySem.W.isFn X.K (.ref f) = true) (ho : PE X o ta) (hi : PE X i ti)
    (hsl : ∀ v u, subscripted i true v u = runValue (.builtin "lifetime.subscript" ⟨[v, u], []⟩) := by intro _ _; rfl) :
    PE X (.Subscript o i pos) (tOp (fun x y H Q => ∃ a dx fs, x = .ref a ∧ H a = some (.ins C dx fs) ∧ sp [.ref a, y] H Q E) ta ti) := by
  refine ⟨fun pins s σ H Q I h => ?_⟩
  refine Subscript_ (thn (ho.run pins s σ H _ I h) fun v s1 ⟨x, H1, I1, rx, q1⟩ => thn (hi.run pins s1 σ H1 _ I1 q1) fun u s2 ⟨y, H2, I2, ry, q2⟩ => ?_)
  obtain ⟨a, dx, fs, rfl, ha, q⟩ := q2
  cases rx
  obtain ⟨od, J⟩ := inst_look I2 ha
  obtain ⟨m, hF⟩ := I2.fr
  exact PySem.W.sub_K hF I2.ok.mod.kin J hs hf hfn (run_in1 (vs := [.ref a, y]) F hr hb hx I2 (.cons rfl (.cons ry .nil)) q) (hsl _ _)
/-- a special name whose value is a builtin's slot -/
theorem bound_slot {M : Model} {A : Around} {E' : Value → Shared → Prop} {K : PySem.W.Frag} {x : Addr} {ox : Obj} {od : Option Obj} {name : Str} {id T : String} {args : List Value} {Q : Option Value → Shared → Prop} (hX : K.In s.heap) (J : PySem.W.InstAt s.heap x ox C od)
    (hn : PySem.W.findIn K (.ref C) name = some (some (.builtin id))) (S : Slot T name id) (h : wpAny M A (call (.builtin id) (.ref x :: args)) (fun v => Q (some v)) E' s) : wpAny M A (callSpecialIfBound? (.ref x) name args) Q E' s := by
  simp only [callSpecialIfBound?, bindSpecialIfBound?]
  refine wpAny_holding (wpAny_bind (wpAny_bind (wpAny_bind (J.type.here ((PySem.W.looks_findIn hX hn).here ?_)))))
  simp only [S.bind]
  have fin : wpAny M A (call (.builtin id) ([.ref x] ++ args) >>= fun v => pure (some v)) Q E' s := wpAny_bind (wpAny_mono h (fun _ _ z => wpAny_pure z) fun _ _ z => z)
  refine wpAny_bind (wpAny_askSetting (wpAny_ite ?_))
  split
  · exact wpAny_bind (wpAny_pure (wpAny_pure fin))
  · exact wpAny_tryCatch (wpAny_bind (wpAny_pure (wpAny_pure fin)))
/-- x != y where the class has __eq__ alone: object.__ne__ asks it -/
theorem ne_own (F : FnOk X.prog X.w X.K X.mg X.base CX k f fd ps sp) (hr : Room (k + 1) X.A) (hb : Binds X.K fd ps []) (hx : Passes CX X E)
    (hn : PySem.W.findIn X.K (.ref C) "__ne__" = some (some (.builtin "object.__ne__"))) (hs : PySem.W.findIn X.K (.ref C) "__eq__" = some (some (.ref f))) (hf : PySem.W.isFn X.K (.ref f) = true)
    (hm : PySem.W.mroIn X.K C (.type "object") = some true) :
    OpR X (compareOp .NotEq) (fun x y H Q => ∃ a b dx dy fs gs, x = .ref a ∧ y = .ref b ∧ H a = some (.ins C dx fs) ∧ H b = some (.ins C dy gs) ∧ sp [.ref a, .ref b] H (fun v H' => ∃ c, v = .bl c ∧ Q (.bl (!c)) H') E) := by
  rintro pins s σ H x y v u Q I rx ry ⟨a, b, dx, dy, fs, gs, rfl, rfl, ha, hb', h⟩
  cases rx
  cases ry
  obtain ⟨od, J⟩ := inst_look I ha
  obtain ⟨od', J'⟩ := inst_look I hb'
  have hu1 : X.A.in1.units < cLine := (hr.in1).units0
  have inst : PySem.W.Looks (model X.prog X.w) s.heap (isInstance (.ref a) (.type "object")) true := J.type.andThen (PySem.W.looks_mroIn I.kIn hm)
  have body : wpAny (model X.prog X.w) X.A (call (.builtin "object.__ne__") [.ref a, .ref b]) (EP X pins σ Q) X.xe s := by
    refine wpAny_call (codeAny_call_builtin PySem.F.cmp_object.ne.plain PySem.F.cmpEntry_ne (PySem.W.check_slot PySem.F.cmpKind_ne PySem.F.cmpSplit_ne inst (PySem.F.cmpArgs_ne _ _) ?_))
    have asked := run_in1 (vs := [.ref a, .ref b]) F hr hb hx I (.cons rfl (.cons rfl .nil)) h
    obtain ⟨hp, g, d, tk, os⟩ := s
    unfold Builtin.«object.__ne__»
    repeat (first
      | with_reducible refine wpAny_cRoomFor hu1 ?_
      | (refine wpAny_bind (m := callSpecialIfBound? (.ref a) (Str.ofString "__eq__") [.ref b])
          (PySem.W.ifBound_K I.kIn J hs hf (thn asked fun r s' hr' => by
            obtain ⟨vv, H', I', rv, c, rfl, q⟩ := hr'
            cases rv
            have q' : EP X pins σ Q (.bool (!c)) s' := ⟨.bl (!c), H', I', rfl, q⟩
            repeat (first | exact q' | exact wpAny_pure q' | exact wpAny_truthy_bool q' | (refine wpAny_bind (m := truthy (.bool _)) (wpAny_truthy_bool ?_)) | wp_step))))
      | wp_step)
  have one : wpAny (model X.prog X.w) X.A (tryCompare (.ref a) "__ne__" (.ref b)) (fun r s' => ∃ v, r = some v ∧ EP X pins σ Q v s') X.xe s := by
    simp only [tryCompare]
    refine wpAny_bind (bound_slot I.kIn J hn PySem.F.cmp_object.ne (thn body fun v s' hv => ?_))
    obtain ⟨z, H', I', rz, q⟩ := id hv
    cases z with
    | non => cases (show v = Value.none from rz); exact wpAny_pure ⟨_, rfl, hv⟩
    | bl i => cases (show v = Value.bool i from rz); exact wpAny_pure ⟨_, rfl, hv⟩
    | int i => obtain ⟨t, e⟩ := (show ∃ t, v = Value.int i t from rz); subst e; exact wpAny_pure ⟨_, rfl, hv⟩
    | str i => obtain ⟨t, e⟩ := (show ∃ t, v = Value.str i t from rz); subst e; exact wpAny_pure ⟨_, rfl, hv⟩
    | byt i => obtain ⟨t, e⟩ := (show ∃ t, v = Value.bytes i t from rz); subst e; exact wpAny_pure ⟨_, rfl, hv⟩
    | flt i => obtain ⟨t, e⟩ := (show ∃ t, v = Value.float i t from rz); subst e; exact wpAny_pure ⟨_, rfl, hv⟩
    | ref i => cases (show v = Value.ref i from rz); exact wpAny_pure ⟨_, rfl, hv⟩
    | ty i => cases (show v = Value.type i from rz); exact wpAny_pure ⟨_, rfl, hv⟩
  show wpAny (model X.prog X.w) X.A (richCompare .NotEq (.ref a) (.ref b)) (EP X pins σ Q) X.xe s
  unfold richCompare
  simp only [oneThing_ref]
  refine wpAny_holding (wpAny_bind (wpAny_cRoomFor hr.units0 ?_))
  refine wpAny_bind (J.type.here (wpAny_bind (J'.type.here ?_)))
  rw [show (Value.ref C != Value.ref C) = false from by simp]
  simp only [Bool.false_eq_true, if_false]
  refine wpAny_bind (wpAny_pure ?_)
  simp only [Bool.false_eq_true, if_false]
  refine wpAny_bind (thn one fun r s' z => ?_)
  obtain ⟨v, rfl, q⟩ := z
  exact wpAny_pure q
end
end K35
end

section
set_option Elab.async false
set_option linter.all false
set_option maxRecDepth 100000
set_option maxHeartbeats 4000000
/-! K3: dicts that are walked right where they were made, dict.update, == of two dicts with its answer, comprehensions whose turns make new things alone. -/
namespace K35
open PySem PySem.Spec PyProof.Rows L2
section
variable {X : Cx}
/-- e's dict is locked from here on (a dict of one's own that is walked and dropped) -/
def tLk (t : TE) : TE := fun σ H Q => t σ H fun x H1 => ∃ d u, x = .ref d ∧ H1 d = some u ∧ Mut (some u) ∧ ∀ od, Q x (upd H1 d (.frz od u))
theorem pe_lk {e : Expr} {t : TE} (h : PE X e t) : PE X e (tLk t) := by
  refine ⟨fun pins s σ H Q I hq => thn (h.run pins s σ H _ I hq) fun u s1 ⟨x, H1, I1, rx, d, o, ex, hd, mu, q⟩ => ?_⟩
  obtain ⟨od, I2⟩ := I1.lock hd mu
  exact ⟨x, _, I2, rx, q od⟩

/-- a.update(b), b another dict -/
def rDUpd : V → List V → Hp → VK → Prop := fun x xs H Q => ∃ (a b : Addr) (kvs more : List (Key × V)), x = .ref a ∧ xs = [.ref b] ∧ a ≠ b ∧ H a = some (.dK kvs) ∧ H b = some (.dK more) ∧ kvs.length + more.length ≤ sizeLine ∧ Q .non (upd H a (.dK (mergeK kvs more)))
theorem mt_dupd : MtR X "dict.update" rDUpd := by
  rintro pins s σ H x xs v us Q I rx r ⟨a, b, kvs, more, rfl, rfl, hab, ha, hb, hz, q⟩
  cases rx
  obtain ⟨u, rfl, r1⟩ := vals1 r
  cases r1
  obtain ⟨z1, hd1, vs, rel, dd⟩ := dk_of I.hok ha
  obtain ⟨z2, hd2, ws, rel2, dd2⟩ := dk_of I.hok hb
  have hl : vs.length + ws.length ≤ sizeLine := by rw [← rel.length, ← rel2.length]; exact hz
  refine call_meetsIn PySem.F.slot_dict_update dd.typeIs PySem.F.entry_dict_update (PySem.F.args_dict_update_2 _ _) (meets_dict_update (mixKind X.prog X.w) a b hab hd2) ⟨vs, ws, dd, dd2, hl, fun h' dd' _ hs => ?_⟩
  have he : ∃ q, h'.get? a = some q := let ⟨q, _, _, hq, _⟩ := dd'; ⟨q, hq⟩
  have hm := length_mergeK more kvs
  exact ⟨.non, _, d_write (t' := s.toks) I (by rw [ha]; exact True.intro) hs he (dk_new (Nat.le_trans hm hz) hd1 (KV.merge rel2 rel) dd'), rfl, q⟩

/-- how == of two dicts of flat values answers -/
def hitD (ls : List (Key × V)) : List (Key × V) → Bool
  | [] => true
  | p :: r => match valV ls p.1 with
    | none => false
    | some y => eqV p.2 y && hitD ls r
theorem hits_of {A : Around} {s : Shared} {ls : List (Key × V)} {vb : List (Key × Value)} (rb : KV ls vb) (fb : ∀ p ∈ ls, flatV p.2 = true) :
    ∀ {ks : List (Key × V)} {va : List (Key × Value)}, KV ks va → (∀ p ∈ ks, flatV p.2 = true) → PySem.W.KeqHits A s vb va (hitD ls ks)
  | [], _, .nil, _ => .nil
  | p :: r, (k, u) :: va, .cons ⟨e1, e2⟩ t, hf => by
    obtain ⟨k', x⟩ := p
    dsimp only at e1 e2
    subst e1
    have ih := hits_of (A := A) (s := s) rb fb t fun q hq => hf q (List.mem_cons_of_mem _ hq)
    have rv := rb.val k'
    unfold hitD
    dsimp only
    cases e : valV ls k' with
    | none =>
      rw [e] at rv
      exact .miss (RelO.none_of rv)
    | some y =>
      rw [e] at rv
      obtain ⟨w, ew, ry⟩ := RelO.some_of rv
      have fy : flatV y = true := by
        unfold valV at e
        obtain ⟨q, hq, eq⟩ := Option.map_eq_some_iff.mp e
        rw [← eq]
        exact fb q (List.mem_of_find?_eq_some hq)
      exact .hit ew (eqAt_V e2 ry (hf _ List.mem_cons_self) fy) ih
theorem op_eq_dictB (hu : X.A.units < cLine) : OpR X (compareOp .Eq) (fun x y H Q => ∃ a b ks ls, x = .ref a ∧ y = .ref b ∧ H a = some (.dK ks) ∧ H b = some (.dK ls) ∧ (∀ p ∈ ks, flatV p.2 = true) ∧ (∀ p ∈ ls, flatV p.2 = true) ∧ Q (.bl (ks.length == ls.length && hitD ls ks)) H) := by
  rintro pins s σ H x y v u Q I rx ry ⟨a, b, ks, ls, rfl, rfl, ea, eb, fa, fb, q⟩
  cases rx
  cases ry
  obtain ⟨_, ya, va, ra, da⟩ := dk_of I.hok ea
  obtain ⟨_, yb, vb, rb, db⟩ := dk_of I.hok eb
  refine PySem.W.keq_eq (knd := mixKind X.prog X.w) (r := hitD ls ks) ya yb da db hu (fun _ => hits_of rb fb ra fa) (fin_bl I q ?_)
  rw [ra.length, rb.length]

/-- cls(e, ..), the class in the i-th slot -/
def tMakeL (i : Nat) (C : Addr) (sp : Sp) (E : XK) (t : TA) : TE := fun σ H Q => σ[i]? = some (some (.ref C)) ∧ t σ H fun vs H1 => ∀ x dx, H1 x = none → H1 dx = none → dx ≠ x →
  sp (.ref x :: vs) (upd (upd H1 dx (.own x)) x (.ins C dx [])) (fun v H2 => v = .non ∧ Q (.ref x) H2) E
theorem pe_makeL {CX : CXT} {k i : Nat} {f C : Addr} {fd : FuncData} {ps : List Str} {sp : Sp} {E : XK} {x : Str} {p pos : Pos} {e : Expr} {es : List Expr} {t : TA} (M : Mk X.K C f) (F : FnOk X.prog X.w X.K X.mg X.base CX k f fd ps sp) (hr : Room (k + 1) X.A)
    (hN : X.N[i]? = some x) (hv : Vis X.env.scope x) (hb : Binds X.K fd ps []) (hx : Passes CX X E) (ha : PA X (e :: es) t) (hdb : (x == ("__debug__" : Str)) = false := by decide) (hcd : (x == ("__classdict__" : Str)) = false := by decide)
    (hs : starEach (e :: es) X.env = (false, eval e X.env) :: starEach es X.env := by rfl) (hpl : (backTo pos (starEach es X.env)).any (·.1) = false := by rfl) : PE X (.Call (.Name x p) (e :: es) [] pos) (tMakeL i C sp E t) := by
  refine ⟨fun pins s σ H Q I h => ?_⟩
  obtain ⟨h1, h2⟩ := h
  refine wpAny_Call_Name_kw (thn ((pe_var (pos := p) hN hv hdb hcd).run pins s σ H (fun v H1 => v = .ref C ∧ H1 = H) I ⟨.ref C, h1, rfl, rfl⟩) fun u s1 ⟨v, H1, I1, r1, q1⟩ => ?_)
  obtain ⟨rfl, rfl⟩ := q1
  cases r1
  refine PySem.W.callWith_K (h₀ := X.base) I.ok.mod.kin M.kp (thn (ha.run pos pins s1 σ _ _ I1 h2) fun us s2 ⟨vs, H2, I2, r, q⟩ => ⟨I2.kIn, ?_⟩) hs hpl
  exact run_make (dvs := []) (ds := []) M F hr hb .nil hx I2 r fun y dy n1 n2 n3 => by rw [List.append_nil]; exact q y dy n1 n2 n3
end

/-! ### heaps that have only grown -/
theorem same_new {H0 H : Hp} {p : Addr} {o : HO} (s : Same H0 H) (n : H p = none) : Same H0 (upd H p o) := fun b u e => by rw [upd_ne (ne_of_none (s b u e) n)]; exact s b u e
/-- an object that the old heap does not know is changed -/
theorem same_at {H0 H : Hp} {p : Addr} {o : HO} (s : Same H0 H) (n : H0 p = none) : Same H0 (upd H p o) := fun b u e => by rw [upd_ne (ne_of_none e n)]; exact s b u e
theorem same_upd {H0 H : Hp} {p : Addr} {o : HO} (n : H0 p = none) (s : Same (upd H0 p o) H) : Same H0 H := fun b u e => s b u (by rw [upd_ne (ne_of_none e n)]; exact e)

/-! ### comprehensions whose turns only make new things -/
/-- behind i turns: nothing old has changed, the new list at D holds out i -/
def PvL (H1 : Hp) (D : Addr) (out : Nat → List V) : Nat → Hp → Prop := fun i H => Same H1 H ∧ H D = some (.lst (out i))
def PvD (H1 : Hp) (D : Addr) (out : Nat → List (Key × V)) : Nat → Hp → Prop := fun i H => Same H1 H ∧ H D = some (.dK (out i))
section
variable {H1 H : Hp} {D : Addr} {i : Nat}
theorem PvL.zero {out : Nat → List V} (n : H1 D = none) (e : out 0 = []) : PvL H1 D out 0 (upd H1 D (.lst [])) := ⟨same_new (Same.refl _) n, by rw [upd_same, e]⟩
theorem PvL.add {out : Nat → List V} {y : V} (n : H1 D = none) (p : PvL H1 D out i H) (z : (out i).length < sizeLine) (e : out (i + 1) = out i ++ [y]) : ∃ acc, H D = some (.lst acc) ∧ acc.length < sizeLine ∧ PvL H1 D out (i + 1) (upd H D (.lst (acc ++ [y]))) :=
  ⟨out i, p.2, z, same_at p.1 n, by rw [upd_same, e]⟩
theorem PvL.skip {out : Nat → List V} (p : PvL H1 D out i H) (e : out (i + 1) = out i) : PvL H1 D out (i + 1) H := ⟨p.1, by rw [e]; exact p.2⟩
/-- a step that has made things -/
theorem PvL.grown {out : Nat → List V} {H' : Hp} (p : PvL H1 D out i H) (s : Same H H') : PvL H1 D out i H' := ⟨p.1.trans s, s _ _ p.2⟩
theorem PvD.zero {out : Nat → List (Key × V)} (n : H1 D = none) (e : out 0 = []) : PvD H1 D out 0 (upd H1 D (.dK [])) := ⟨same_new (Same.refl _) n, by rw [upd_same, e]⟩
theorem PvD.add {out : Nat → List (Key × V)} {x y : V} {k : Key} (n : H1 D = none) (p : PvD H1 D out i H) (z : (out i).length < sizeLine) (ek : x = kV k) (e : out (i + 1) = putK (out i) k y) :
    ∃ kvs k', x = kV k' ∧ H D = some (.dK kvs) ∧ kvs.length < sizeLine ∧ PvD H1 D out (i + 1) (upd H D (.dK (putK kvs k' y))) :=
  ⟨out i, k, ek, p.2, z, same_at p.1 n, by rw [upd_same, e]⟩
theorem PvD.skip {out : Nat → List (Key × V)} (p : PvD H1 D out i H) (e : out (i + 1) = out i) : PvD H1 D out (i + 1) H := ⟨p.1, by rw [e]; exact p.2⟩
theorem PvD.grown {out : Nat → List (Key × V)} {H' : Hp} (p : PvD H1 D out i H) (s : Same H H') : PvD H1 D out i H' := ⟨p.1.trans s, s _ _ p.2⟩
end
section
variable {J : It} {n : Nat} {G : Hp → Prop} {Y : Nat → Hp → V → Hp → Prop}
/-- a dict comprehension over a walk -/
theorem dc_it (w : Walk J n G Y) {g : TG} {tt : TT} {tk tv : TE} {vs : List Nat} {σ : L2.St} {H1 : Hp} {D : Addr} {Qd : Hp → Prop} (Pv : Nat → Hp → Prop) (h0 : Pv 0 (upd H1 D (.dK []))) (hG : ∀ i H, i ≤ n → Pv i H → G H)
    (hs : ∀ i x H H', i < n → Pv i H → Y i H x H' → g x (wipe σ vs) H' fun σ2 H2 => wipe σ2 vs = wipe σ vs ∧ tt σ2 H2 fun b H3 =>
      if b = true then tk σ2 H3 fun y H4 => tv σ2 H4 fun z H5 => ∃ kvs k, y = kV k ∧ H5 D = some (.dK kvs) ∧ kvs.length < sizeLine ∧ Pv (i + 1) (upd H5 D (.dK (putK kvs k z))) else Pv (i + 1) H3) (hd : ∀ H, Pv n H → Qd H) :
    ∃ W : Nat → Nat → Hp → Prop, (∃ m, W 0 m (upd H1 D (.dK []))) ∧ ∀ i m H, W i m H →
      (J.stop i H ∧ Qd H) ∨ (J.go i H ∧ ∃ Nx : Hp → Prop, (∀ H', Nx H' → ∃ m', m' < m ∧ W (i + 1) m' H') ∧ ∀ x H', J.yld i H x H' → g x (wipe σ vs) H' fun σ2 H2 => wipe σ2 vs = wipe σ vs ∧ tt σ2 H2 fun b H3 =>
        if b = true then tk σ2 H3 fun y H4 => tv σ2 H4 fun z H5 => ∃ kvs k, y = kV k ∧ H5 D = some (.dK kvs) ∧ kvs.length < sizeLine ∧ Nx (upd H5 D (.dK (putK kvs k z))) else Nx H3) := by
  refine ⟨fun i m H => i + m = n ∧ Pv i H, ⟨n, Nat.zero_add n, h0⟩, fun i m H hw => ?_⟩
  obtain ⟨hm, p⟩ := hw
  cases m with
  | zero =>
    have e : i = n := hm
    subst e
    exact .inl ⟨w.stops H (hG _ H (Nat.le_refl _) p), hd H p⟩
  | succ m =>
    have hlt : i < n := by omega
    have q := hG i H (Nat.le_of_lt hlt) p
    exact .inr ⟨w.goes i H hlt q, Pv (i + 1), fun H' p' => ⟨m, Nat.lt_succ_self m, by omega, p'⟩, fun x H' y => hs i x H H' hlt p (w.yields i H x H' hlt q y)⟩
end
end K35
end

section
set_option Elab.async false
set_option linter.all false
set_option maxRecDepth 100000
set_option maxHeartbeats 4000000
/-! K4: dict(zip(xs, ys)) and dict(zip(xs, ys, strict=True)) of two lists (the strict ones of one length). -/
namespace K35
open PySem PySem.Spec PyProof.Rows L2
open PySem.W (kdx_alive)
/-- a strict zip: u its first two cells -/
abbrev Sz (h : Heap) (z TI TO : Addr) (u v : Value) : Prop :=
  h.get? z = some { cls := .type "zip", dict := none, data := .fields #[u, v, .bool true, .ref TI, .ref TO], slots := #[] }
section
variable {prog : Program} {w : World} {A : Around} {E : Value → Shared → Prop} {s : Shared}
theorem orEnd_item {it l : Addr} {i : Nat} {items : Array Value} {x : Value} {Q : Option Value → Shared → Prop} (hit : s.heap.IsListIter it l i) (hl : s.heap.IsList l items) (hx : items[i]? = some x)
    (k : ∀ g, g.IsListIter it l (i + 1) → Heap.SameBut it s.heap g → Q (some x) { s with heap := g }) : wpAny (model prog w) A (Builtin.SmallTypes.nextOrEnd (.ref it)) Q E s := by
  unfold Builtin.SmallTypes.nextOrEnd
  exact wpAny_bind (wpAny_attempt (wpAny_nextOf_list_item hit hl hx fun g a b => wpAny_pure (k g a b)))
theorem orEnd_end {it l : Addr} {i : Nat} {items : Array Value} {Q : Option Value → Shared → Prop} (hh : A.handled = none) (hit : s.heap.IsListIter it l i) (hl : s.heap.IsList l items) (hx : items[i]? = none)
    (k : ∀ g, Heap.ExtBut it s.heap g → Q none { s with heap := g }) : wpAny (model prog w) A (Builtin.SmallTypes.nextOrEnd (.ref it)) Q E s := by
  unfold Builtin.SmallTypes.nextOrEnd
  refine wpAny_bind (wpAny_attempt (wpAny_nextOf_list_end hh hit hl hx fun g e a he => ?_))
  obtain ⟨o, ho, hc⟩ := he
  refine wpAny_bind (wpAny_isInstance (T := "StopIteration") (b := true) ⟨o, ho, hc⟩ isSubtype_stop ?_)
  exact wpAny_pure (k g a)
/-- the cells that are no news -/
structure Ap (z TI TO i1 i2 l1 l2 : Addr) : Prop where
  D : ZipApart z TI TO i1 i2 l1 l2

theorem sz_item {z TI TO i1 i2 l1 l2 : Addr} {k1 k2 : Nat} {xs ys : Array Value} {x y a b : Value} {Q : Value → Shared → Prop} (D : ZipApart z TI TO i1 i2 l1 l2) (hz : Sz s.heap z TI TO .none (.bool false)) (hTI : IsPair s.heap TI (.ref i1) (.ref i2))
    (hTO : IsPair s.heap TO a b) (h1 : s.heap.IsListIter i1 l1 k1) (h2 : s.heap.IsListIter i2 l2 k2) (hl1 : s.heap.IsList l1 xs) (hl2 : s.heap.IsList l2 ys) (hx : xs[k1]? = some x) (hy : ys[k2]? = some y)
    (hQ : ∀ g, Sz g z TI TO (rawInt s.heap.objs.size) (.bool false) → g.IsListIter i1 l1 (k1 + 1) → g.IsListIter i2 l2 (k2 + 1) → IsPair g s.heap.objs.size x y → (∀ c o, c ≠ z → c ≠ TO → c ≠ i1 → c ≠ i2 → s.heap.get? c = some o → g.get? c = some o) → Q (.ref s.heap.objs.size) { s with heap := g }) :
    wpAny (model prog w) A (Builtin.«zip.__next__» ⟨[.ref z], []⟩) (fun fin s' => ∃ v, fin = .done (.ret v) ∧ Q v s') E s := by
  show wpAny _ _ (field (.ref z) 2 >>= _) _ _ _
  refine wpAny_bind (wpAny_field hz rfl (x := .bool true) rfl ?_)
  show wpAny _ _ (field (.ref z) 3 >>= _) _ _ _
  refine wpAny_bind (wpAny_field hz rfl (x := .ref TI) rfl (wpAny_bind (wpAny_seqItems hTI rfl ?_)))
  show wpAny _ _ (Builtin.SmallTypes.ownedTupleIsFree (.ref z) >>= _) _ _ _
  unfold Builtin.SmallTypes.ownedTupleIsFree
  refine wpAny_bind (wpAny_bind (wpAny_field hz rfl (x := .none) rfl (wpAny_pure ?_)))
  simp only [if_true]
  refine wpAny_bind (wpAny_rule (wpAny_bind (wpAny_field hz rfl (x := .ref TO) rfl ?_)))
  refine wpAny_bind (wpAny_setField_rec hz (by simp) fun g1 z1 s1 => wpAny_bind ?_)
  replace z1 : Sz g1 z TI TO .ellipsis (.bool false) := z1
  simp only [List.zipIdx_cons, List.zipIdx_nil, List.forIn_cons, List.forIn_nil]
  refine wpAny_bind (wpAny_bind (wpAny_onRaise ?_))
  show wpAny _ _ (Builtin.SmallTypes.nextOrEnd (.ref i1)) _ _ _
  refine orEnd_item (h1.extBut s1.extBut D.i1z) (hl1.extBut s1.extBut D.l1z) hx fun g2 n1 s2 => ?_
  have t2 : IsPair g2 TO a b := s2.extBut _ _ D.TOi1 (s1.extBut _ _ D.TOz hTO)
  refine wpAny_bind (wpAny_seqItems t2 rfl (wpAny_bind (wpAny_updateSeq_pair t2 fun g3 t3 s3 => ?_)))
  replace t3 : IsPair g3 TO x b := t3
  refine wpAny_bind (wpAny_letGo (wpAny_pure ?_))
  refine wpAny_bind (wpAny_bind (wpAny_onRaise ?_))
  show wpAny _ _ (Builtin.SmallTypes.nextOrEnd (.ref i2)) _ _ _
  refine orEnd_item (((h2.extBut s1.extBut D.i2z).extBut s2.extBut D.i12.symm).extBut s3.extBut D.TOi2.symm) (((hl2.extBut s1.extBut D.l2z).extBut s2.extBut D.l2i1).extBut s3.extBut D.l2TO) hy fun g4 n2 s4 => ?_
  have t4 : IsPair g4 TO x b := s4.extBut _ _ D.TOi2 t3
  refine wpAny_bind (wpAny_seqItems t4 rfl (wpAny_bind (wpAny_updateSeq_pair t4 fun g5 t5 s5 => ?_)))
  replace t5 : IsPair g5 TO x y := t5
  refine wpAny_bind (wpAny_letGo (wpAny_pure (wpAny_pure ?_)))
  refine wpAny_bind (wpAny_seqItems t5 rfl (wpAny_bind (wpAny_newTuple ?_)))
  have hsz : g5.objs.size = s.heap.objs.size := by rw [s5.1, s4.1, s3.1, s2.1, s1.1]
  have z5 : Sz g5 z TI TO .ellipsis (.bool false) := s5.extBut _ _ D.TOz.symm (s4.extBut _ _ D.i2z.symm (s3.extBut _ _ D.TOz.symm (s2.extBut _ _ D.i1z.symm z1)))
  have k5 : ∀ c o, c ≠ z → c ≠ TO → c ≠ i1 → c ≠ i2 → s.heap.get? c = some o → g5.get? c = some o := fun c o c1 c2 c3 c4 e =>
    s5.extBut _ _ c2 (s4.extBut _ _ c4 (s3.extBut _ _ c2 (s2.extBut _ _ c3 (s1.extBut _ _ c1 e))))
  have m1 : g5.IsListIter i1 l1 (k1 + 1) := ((n1.extBut s3.extBut D.TOi1.symm).extBut s4.extBut D.i12).extBut s5.extBut D.TOi1.symm
  have m2 : g5.IsListIter i2 l2 (k2 + 1) := n2.extBut s5.extBut D.TOi2.symm
  have zl : z < g5.objs.size := Heap.lt_size z5
  show wpAny _ _ (Builtin.SmallTypes.ownedTupleHandOut (.ref z) (.ref g5.objs.size) >>= _) _ _ _
  unfold Builtin.SmallTypes.ownedTupleHandOut
  have z6 : Sz (g5.push { cls := .type "tuple", data := .seq #[x, y] }) z TI TO .ellipsis (.bool false) := Heap.get?_push_of_some _ z5
  refine wpAny_bind (wpAny_bind (wpAny_setField_rec z6 (by simp) fun g7 z7 s7 => ?_))
  replace z7 : Sz g7 z TI TO (rawInt g5.objs.size) (.bool false) := z7
  refine wpAny_setField_rec z7 (by simp) fun g8 z8 s8 => ?_
  replace z8 : Sz g8 z TI TO (rawInt g5.objs.size) (.bool false) := z8
  have up : ∀ c o, c ≠ z → g5.get? c = some o → g8.get? c = some o := fun c o c1 e => s8.extBut _ _ c1 (s7.extBut _ _ c1 (Heap.get?_push_of_some _ e))
  have p8 : IsPair g8 g5.objs.size x y := s8.extBut _ _ (Nat.ne_of_gt zl) (s7.extBut _ _ (Nat.ne_of_gt zl) (Heap.get?_push_size _ rfl))
  rw [hsz] at z8 p8
  refine wpAny_pure ⟨_, rfl, ?_⟩
  show Q (.ref g5.objs.size) _
  rw [hsz]
  exact hQ g8 z8 (m1.at fun o e => up _ o D.i1z e) (m2.at fun o e => up _ o D.i2z e) p8 fun c o c1 c2 c3 c4 e => up c o c1 (k5 c o c1 c2 c3 c4 e)

/-- the tuple T that was given out stands -/
theorem sz_held {z TI TO T : Addr} {f : Bool} {oT : Obj} {Q : Bool → Shared → Prop} (hz : Sz s.heap z TI TO (rawInt T) (.bool f)) (hT : s.heap.get? T = some oT)
    (k : ∀ g, Sz g z TI TO (rawInt T) (.bool true) → Heap.SameBut z s.heap g → Q false { s with heap := g }) : wpAny (model prog w) A (Builtin.SmallTypes.ownedTupleIsFree (.ref z)) Q E s := by
  unfold Builtin.SmallTypes.ownedTupleIsFree
  refine wpAny_bind (wpAny_field hz rfl (x := rawInt T) rfl ?_)
  show wpAny _ _ (loadIfAlive ((T : Int).toNat) >>= _) _ _ _
  rw [Int.toNat_natCast]
  refine wpAny_bind (kdx_alive hT ?_)
  simp only [Option.isNone_some, Bool.false_eq_true, if_false]
  refine wpAny_bind (wpAny_field hz rfl (x := .bool f) rfl ?_)
  cases f with
  | true =>
    rw [if_neg (show ¬ ((Value.bool true != Value.bool true) = true) from Bool.false_ne_true)]
    exact wpAny_pure (k s.heap hz (Heap.SameBut.refl _ _))
  | false =>
    rw [if_pos (show (Value.bool false != Value.bool true) = true from rfl)]
    exact wpAny_bind (wpAny_setField_rec hz (by simp) fun g zg sg => wpAny_pure (k g zg sg))
theorem sz_item_held {z TI TO T i1 i2 l1 l2 : Addr} {f : Bool} {oT : Obj} {k1 k2 : Nat} {xs ys : Array Value} {x y : Value} {Q : Value → Shared → Prop} (D : ZipApart z TI TO i1 i2 l1 l2) (hz : Sz s.heap z TI TO (rawInt T) (.bool f)) (hT : s.heap.get? T = some oT)
    (hTI : IsPair s.heap TI (.ref i1) (.ref i2)) (h1 : s.heap.IsListIter i1 l1 k1) (h2 : s.heap.IsListIter i2 l2 k2) (hl1 : s.heap.IsList l1 xs) (hl2 : s.heap.IsList l2 ys) (hx : xs[k1]? = some x) (hy : ys[k2]? = some y)
    (hQ : ∀ g, Sz g z TI TO (rawInt T) (.bool true) → g.IsListIter i1 l1 (k1 + 1) → g.IsListIter i2 l2 (k2 + 1) → IsPair g s.heap.objs.size x y → (∀ c o, c ≠ z → c ≠ i1 → c ≠ i2 → s.heap.get? c = some o → g.get? c = some o) → Q (.ref s.heap.objs.size) { s with heap := g }) :
    wpAny (model prog w) A (Builtin.«zip.__next__» ⟨[.ref z], []⟩) (fun fin s' => ∃ v, fin = .done (.ret v) ∧ Q v s') E s := by
  show wpAny _ _ (field (.ref z) 2 >>= _) _ _ _
  refine wpAny_bind (wpAny_field hz rfl (x := .bool true) rfl ?_)
  show wpAny _ _ (field (.ref z) 3 >>= _) _ _ _
  refine wpAny_bind (wpAny_field hz rfl (x := .ref TI) rfl (wpAny_bind (wpAny_seqItems hTI rfl ?_)))
  show wpAny _ _ (Builtin.SmallTypes.ownedTupleIsFree (.ref z) >>= _) _ _ _
  refine wpAny_bind (sz_held hz hT fun g1 z1 s1 => ?_)
  simp only [Bool.false_eq_true, if_false]
  refine wpAny_bind ?_
  rw [← Array.forIn_toList]
  simp only [List.forIn_cons, List.forIn_nil]
  refine wpAny_bind (wpAny_bind (wpAny_holding ?_))
  show wpAny _ _ (Builtin.SmallTypes.nextOrEnd (.ref i1)) _ _ _
  refine orEnd_item (s := { s with heap := g1 }) (h1.extBut s1.extBut D.i1z) (hl1.extBut s1.extBut D.l1z) hx fun g2 n1 s2 => wpAny_pure ?_
  refine wpAny_bind (wpAny_bind (wpAny_holding ?_))
  show wpAny _ _ (Builtin.SmallTypes.nextOrEnd (.ref i2)) _ _ _
  refine orEnd_item (s := { s with heap := g2 }) ((h2.extBut s1.extBut D.i2z).extBut s2.extBut D.i12.symm) ((hl2.extBut s1.extBut D.l2z).extBut s2.extBut D.l2i1) hy fun g3 n2 s3 => wpAny_pure (wpAny_pure ?_)
  show wpAny _ _ (newTuple [x, y] >>= _) _ _ _
  refine wpAny_bind (wpAny_newTuple ?_)
  have hsz : g3.objs.size = s.heap.objs.size := by rw [s3.1, s2.1, s1.1]
  have z3 : Sz g3 z TI TO (rawInt T) (.bool true) := s3.extBut _ _ D.i2z.symm (s2.extBut _ _ D.i1z.symm z1)
  have hk : ∀ c o, c ≠ z → c ≠ i1 → c ≠ i2 → s.heap.get? c = some o → g3.get? c = some o := fun c o c1 c2 c3 e => s3.extBut _ _ c3 (s2.extBut _ _ c2 (s1.extBut _ _ c1 e))
  refine wpAny_pure ⟨_, rfl, ?_⟩
  show Q (.ref g3.objs.size) _
  have hp : IsPair (g3.push { cls := .type "tuple", data := .seq #[x, y] }) g3.objs.size x y := Heap.get?_push_size _ rfl
  rw [hsz] at hp ⊢
  exact hQ _ (Heap.get?_push_of_some _ z3) ((n1.extBut s3.extBut D.i12).at fun o e => Heap.get?_push_of_some _ e) (n2.at fun o e => Heap.get?_push_of_some _ e) hp fun c o c1 c2 c3 e => Heap.get?_push_of_some _ (hk c o c1 c2 c3 e)
/-- StopIteration, raised -/
theorem wp_stop {Q : Fin → Shared → Prop} (hh : A.handled = none) (k : ∀ g e, (∀ b o, s.heap.get? b = some o → g.get? b = some o) → (∃ o, g.get? e = some o ∧ o.cls = .type "StopIteration") → E (.ref e) { s with heap := g }) :
    wpAny (model prog w) A Builtin.SmallTypes.stopIteration Q E s := by
  show wpAny _ _ (newExc (.type "StopIteration") [] >>= _) _ _ _
  refine wpAny_bind ?_
  simp only [newExc, newTuple]
  refine wpAny_bind (wpAny_newObj_type ?_ (by size_fits))
  refine wpAny_bind (m := firstArgMember _ _) (wpAny_of_eq (a := Value.none) (by first | rfl | (simp only [firstArgMember]; rfl)) ?_)
  refine wpAny_newObj_type ?_ (by size_fits)
  simp only [raiseNew]
  refine wpAny_bind (wpAny_handled ?_)
  rw [hh]
  refine wpAny_bind (wpAny_pure (wpAny_throw ?_))
  exact k _ _ (fun b o e => Heap.get?_push_of_some _ (Heap.get?_push_of_some _ e)) ⟨_, Heap.get?_push_size _ rfl, rfl⟩
/-- the end: both lists are through -/
theorem sz_end {z TI TO i1 i2 l1 l2 : Addr} {k1 k2 : Nat} {xs ys : Array Value} {a b : Value} {Q : Fin → Shared → Prop} (hh : A.handled = none) (D : ZipApart z TI TO i1 i2 l1 l2) (hz : Sz s.heap z TI TO .none (.bool false)) (hTI : IsPair s.heap TI (.ref i1) (.ref i2))
    (hTO : IsPair s.heap TO a b) (h1 : s.heap.IsListIter i1 l1 k1) (h2 : s.heap.IsListIter i2 l2 k2) (hl1 : s.heap.IsList l1 xs) (hl2 : s.heap.IsList l2 ys) (hx : xs[k1]? = none) (hy : ys[k2]? = none)
    (hE : ∀ g e, (∀ c o, c ≠ z → c ≠ TO → c ≠ i1 → c ≠ i2 → s.heap.get? c = some o → g.get? c = some o) → (∃ o, g.get? e = some o ∧ o.cls = .type "StopIteration") → E (.ref e) { s with heap := g }) :
    wpAny (model prog w) A (Builtin.«zip.__next__» ⟨[.ref z], []⟩) Q E s := by
  show wpAny _ _ (field (.ref z) 2 >>= _) _ _ _
  refine wpAny_bind (wpAny_field hz rfl (x := .bool true) rfl ?_)
  show wpAny _ _ (field (.ref z) 3 >>= _) _ _ _
  refine wpAny_bind (wpAny_field hz rfl (x := .ref TI) rfl (wpAny_bind (wpAny_seqItems hTI rfl ?_)))
  show wpAny _ _ (Builtin.SmallTypes.ownedTupleIsFree (.ref z) >>= _) _ _ _
  unfold Builtin.SmallTypes.ownedTupleIsFree
  refine wpAny_bind (wpAny_bind (wpAny_field hz rfl (x := .none) rfl (wpAny_pure ?_)))
  simp only [if_true]
  refine wpAny_bind (wpAny_rule (wpAny_bind (wpAny_field hz rfl (x := .ref TO) rfl ?_)))
  refine wpAny_bind (wpAny_setField_rec hz (by simp) fun g1 z1 s1 => wpAny_bind ?_)
  replace z1 : Sz g1 z TI TO .ellipsis (.bool false) := z1
  simp only [List.zipIdx_cons, List.zipIdx_nil, List.forIn_cons, List.forIn_nil]
  refine wpAny_bind (wpAny_bind (wpAny_onRaise ?_))
  show wpAny _ _ (Builtin.SmallTypes.nextOrEnd (.ref i1)) _ _ _
  refine orEnd_end hh (h1.extBut s1.extBut D.i1z) (hl1.extBut s1.extBut D.l1z) hx fun g2 s2 => ?_
  have z2 : Sz g2 z TI TO .ellipsis (.bool false) := s2 _ _ D.i1z.symm z1
  refine wpAny_bind (wpAny_setField_rec z2 (by simp) fun g3 z3 s3 => ?_)
  refine wpAny_bind ?_
  show wpAny _ _ ((forIn [(Value.ref i2, 1)] () fun q _ => _) >>= _) _ _ _
  simp only [List.forIn_cons, List.forIn_nil]
  refine wpAny_bind (wpAny_bind ?_)
  show wpAny _ _ (Builtin.SmallTypes.nextOrEnd (.ref i2) >>= _) _ _ _
  refine wpAny_bind (orEnd_end (s := { s with heap := g3 }) hh (((h2.extBut s1.extBut D.i2z).extBut s2 D.i12.symm).extBut s3.extBut D.i2z) (((hl2.extBut s1.extBut D.l2z).extBut s2 D.l2i1).extBut s3.extBut D.l2z) hy fun g4 s4 => ?_)
  simp only [Option.isSome_none, Bool.false_eq_true, if_false]
  refine wpAny_pure (wpAny_pure (wpAny_bind (wpAny_rule (wp_stop hh fun g e kg he => ?_))))
  exact hE g e (fun c o c1 c2 c3 c4 x => kg _ _ (s4 _ _ c4 (s3.extBut _ _ c1 (s2 _ _ c3 (s1.extBut _ _ c1 x))))) he
theorem sz_end_held {z TI TO T i1 i2 l1 l2 : Addr} {f : Bool} {oT : Obj} {k1 k2 : Nat} {xs ys : Array Value} {Q : Fin → Shared → Prop} (hh : A.handled = none) (D : ZipApart z TI TO i1 i2 l1 l2) (hz : Sz s.heap z TI TO (rawInt T) (.bool f)) (hT : s.heap.get? T = some oT)
    (hTI : IsPair s.heap TI (.ref i1) (.ref i2)) (h1 : s.heap.IsListIter i1 l1 k1) (h2 : s.heap.IsListIter i2 l2 k2) (hl1 : s.heap.IsList l1 xs) (hl2 : s.heap.IsList l2 ys) (hx : xs[k1]? = none) (hy : ys[k2]? = none)
    (hE : ∀ g e, (∀ c o, c ≠ z → c ≠ i1 → c ≠ i2 → s.heap.get? c = some o → g.get? c = some o) → (∃ o, g.get? e = some o ∧ o.cls = .type "StopIteration") → E (.ref e) { s with heap := g }) :
    wpAny (model prog w) A (Builtin.«zip.__next__» ⟨[.ref z], []⟩) Q E s := by
  show wpAny _ _ (field (.ref z) 2 >>= _) _ _ _
  refine wpAny_bind (wpAny_field hz rfl (x := .bool true) rfl ?_)
  show wpAny _ _ (field (.ref z) 3 >>= _) _ _ _
  refine wpAny_bind (wpAny_field hz rfl (x := .ref TI) rfl (wpAny_bind (wpAny_seqItems hTI rfl ?_)))
  show wpAny _ _ (Builtin.SmallTypes.ownedTupleIsFree (.ref z) >>= _) _ _ _
  refine wpAny_bind (sz_held hz hT fun g1 z1 s1 => ?_)
  simp only [Bool.false_eq_true, if_false]
  refine wpAny_bind ?_
  rw [← Array.forIn_toList]
  simp only [List.forIn_cons, List.forIn_nil]
  refine wpAny_bind (wpAny_bind (wpAny_holding ?_))
  show wpAny _ _ (Builtin.SmallTypes.nextOrEnd (.ref i1)) _ _ _
  refine orEnd_end (s := { s with heap := g1 }) hh (h1.extBut s1.extBut D.i1z) (hl1.extBut s1.extBut D.l1z) hx fun g2 s2 => ?_
  refine wpAny_bind ?_
  show wpAny _ _ ((forIn [(Value.ref i2, 1)] () fun q _ => _) >>= _) _ _ _
  simp only [List.forIn_cons, List.forIn_nil]
  refine wpAny_bind (wpAny_bind ?_)
  show wpAny _ _ (Builtin.SmallTypes.nextOrEnd (.ref i2) >>= _) _ _ _
  refine wpAny_bind (orEnd_end (s := { s with heap := g2 }) hh ((h2.extBut s1.extBut D.i2z).extBut s2 D.i12.symm) ((hl2.extBut s1.extBut D.l2z).extBut s2 D.l2i1) hy fun g4 s4 => ?_)
  simp only [Option.isSome_none, Bool.false_eq_true, if_false]
  refine wpAny_pure (wpAny_pure (wpAny_bind (wpAny_rule (wp_stop hh fun g e kg he => ?_))))
  exact hE g e (fun c o c1 c3 c4 x => kg _ _ (s4 _ _ c4 (s2 _ _ c3 (s1.extBut _ _ c1 x)))) he
/-- next(z) -/
theorem sz_next {z TI TO : Addr} {u v : Value} {Q : Option Value → Shared → Prop} (hz : Sz s.heap z TI TO u v)
    (h : wpAny (model prog w) A.in1 (Builtin.«zip.__next__» ⟨[.ref z], []⟩) (fun fin s' => ∃ x, fin = .done (.ret x) ∧ Q (some x) s')
      (fun e s' => (∃ o a, e = .ref a ∧ s'.heap.get? a = some o ∧ o.cls = .type "StopIteration") ∧ Q none s') s) : wpAny (model prog w) A (pyNext (.ref z)) Q E s := by
  have hT : s.TypeIs (.ref z) "zip" := ⟨_, hz, rfl⟩
  unfold pyNext
  refine wpAny_bind (wpAny_attempt (wpAny_callSpecial?_slot (name := Str.ofString "__next__") hT F.slot_zip_next (wpAny_call_entry F.slot_zip_next hT F.entry_zip_next (wpAny_mono h (fun fin s' q => ?_) fun e s' q => ?_) (F.args_zip_next_1 _))))
  · obtain ⟨x, rfl, q⟩ := q
    exact ⟨x, rfl, wpAny_pure q⟩
  · obtain ⟨⟨o, a, rfl, ho, hc⟩, q⟩ := q
    refine wpAny_bind (wpAny_isInstance (T := "StopIteration") (b := true) ⟨o, ho, hc⟩ isSubtype_stop ?_)
    exact wpAny_pure q
theorem sz_iter {z TI TO : Addr} {u v : Value} {Q : Value → Shared → Prop} (hz : Sz s.heap z TI TO u v) (h : Q (.ref z) s) : wpAny (model prog w) A (pyIter (.ref z)) Q E s := by
  have hT : s.TypeIs (.ref z) "zip" := ⟨_, hz, rfl⟩
  refine wpAny_pyIter_slot hT F.slot_zip_iter (wpAny_call_entry F.slot_zip_iter hT F.entry_zip_iter ?_ (F.args_zip_iter_1 _))
  show wpAny _ _ (ret (.ref z)) _ _ s
  exact wpAny_pure ⟨_, rfl, "zip", _, hT, F.slot_zip_next.lookup, h⟩
end
/-- a strict zip of two lists of one length, as what dict() takes -/
theorem sz_arg {prog : Program} {w : World} (z TI TO i1 i2 l1 l2 : Addr) (D : ZipApart z TI TO i1 i2 l1 l2) (xs ys : Array Value) (hxy : ys.size = xs.size) :
    PairArg prog w "zip" z [z, TI, TO, i1, i2, l1, l2] [z, TO, i1, i2] xs.size (fun i k v => xs[i]? = some k ∧ ys[i]? = some v)
      (fun h => Sz h z TI TO .none (.bool false) ∧ IsPair h TI (.ref i1) (.ref i2) ∧ (∃ a b, IsPair h TO a b) ∧ h.IsListIter i1 l1 0 ∧ h.IsListIter i2 l2 0 ∧ h.IsList l1 xs ∧ h.IsList l2 ys) where
  type := fun s ok => ⟨_, ok.1, rfl⟩
  notDict := by decide
  keep := fun h g ok hk => by
    obtain ⟨q1, q2, ⟨a, b, q3⟩, q4, q5, q6, q7⟩ := ok
    exact ⟨hk _ _ q1, hk _ _ q2, ⟨a, b, hk _ _ q3⟩, q4.at fun o e => hk _ o e, q5.at fun o e => hk _ o e, q6.at fun o e => hk _ o e, q7.at fun o e => hk _ o e⟩
  there := fun h ok b hb => by
    obtain ⟨q1, q2, ⟨a, c, q3⟩, ⟨_, q4, _⟩, ⟨_, q5, _⟩, ⟨_, q6, _⟩, ⟨_, q7, _⟩⟩ := ok
    simp only [List.mem_cons, List.not_mem_nil, or_false] at hb
    rcases hb with rfl | rfl | rfl | rfl | rfl | rfl | rfl
    all_goals first | exact ⟨_, q1⟩ | exact ⟨_, q2⟩ | exact ⟨_, q3⟩ | exact ⟨_, q4⟩ | exact ⟨_, q5⟩ | exact ⟨_, q6⟩ | exact ⟨_, q7⟩
  sub := fun b hb => by simp at hb ⊢; rcases hb with rfl | rfl | rfl | rfl <;> simp
  noKeys := fun A s Q E hA ok h => getAttrOr_miss_zip ok.1 rfl rfl rfl zip_no_keys (by decide +kernel) hA h
  iter := fun A s d Q E hA ok hd hdf h => by
    obtain ⟨q1, q2, ⟨a, b, q3⟩, q4, q5, q6, q7⟩ := ok
    simp only [List.mem_cons, List.not_mem_nil, or_false, not_or] at hdf
    obtain ⟨dz, dTI, dTO, di1, di2, dl1, dl2⟩ := hdf
    refine sz_iter q1 (h z [z, TO, i1, i2] (fun i h => IsPair h TI (.ref i1) (.ref i2) ∧ h.IsListIter i1 l1 i ∧ h.IsListIter i2 l2 i ∧ h.IsList l1 xs ∧ h.IsList l2 ys ∧
      ((Sz h z TI TO .none (.bool false) ∧ ∃ a b, IsPair h TO a b) ∨ ∃ (T : Addr) (f : Bool) (oT : Obj), Sz h z TI TO (rawInt T) (.bool f) ∧ h.get? T = some oT ∧ T ≠ z ∧ T ≠ i1 ∧ T ≠ i2 ∧ T ≠ d)) s.heap s.toks ?_
      ⟨q2, q4, q5, q6, q7, .inl ⟨q1, a, b, q3⟩⟩ (fun _ _ e => e) fun b hb => .inl hb)
    refine { off := fun hm => ?_, frame := fun i g1 g2 st hk => ?_, item := fun i s1 Q1 E1 hi st hds hQ => ?_, done := fun s1 Q1 E1 st hQ => ?_ }
    · simp only [List.mem_cons, List.not_mem_nil, or_false] at hm
      rcases hm with e | e | e | e
      · exact dz e
      · exact dTO e
      · exact di1 e
      · exact di2 e
    · obtain ⟨p2, p4, p5, p6, p7, p1⟩ := st
      refine ⟨hk _ _ (Ne.symm dTI) p2, p4.at fun o e => hk _ o (Ne.symm di1) e, p5.at fun o e => hk _ o (Ne.symm di2) e, p6.at fun o e => hk _ o (Ne.symm dl1) e, p7.at fun o e => hk _ o (Ne.symm dl2) e, ?_⟩
      rcases p1 with ⟨p1, a, b, p3⟩ | ⟨T, f, oT, p1, hT, r1, r2, r3, r4⟩
      · exact .inl ⟨hk _ _ (Ne.symm dz) p1, a, b, hk _ _ (Ne.symm dTO) p3⟩
      · exact .inr ⟨T, f, oT, hk _ _ (Ne.symm dz) p1, hk _ _ r4 hT, r1, r2, r3, r4⟩
    · obtain ⟨p2, p4, p5, p6, p7, p1⟩ := st
      have ex := Array.getElem?_eq_getElem hi
      have ey := Array.getElem?_eq_getElem (show i < ys.size by rw [hxy]; exact hi)
      have lt : ∀ {c o}, s1.heap.get? c = some o → s1.heap.objs.size ≠ c := fun e => Nat.ne_of_gt (Heap.lt_size e)
      have n1 : s1.heap.objs.size ≠ i1 := let ⟨_, e, _⟩ := p4; lt e
      have n2 : s1.heap.objs.size ≠ i2 := let ⟨_, e, _⟩ := p5; lt e
      rcases p1 with ⟨p1, a, b, p3⟩ | ⟨T, f, oT, p1, hT, r1, r2, r3, r4⟩
      · refine sz_next p1 (wpAny_mono (sz_item D p1 p2 p3 p4 p5 p6 p7 ex ey fun g a1 a3 a4 a5 hk => (hQ s1.heap.objs.size _ _ g s1.toks ⟨ex, ey⟩ (.inl ⟨_, a5, rfl, _, rfl⟩) ?_ fun c o hc e => ?_)) (fun _ _ q => q) fun _ _ q => q)
        · exact ⟨hk _ _ D.TIz D.TITO D.TIi1 D.TIi2 p2, a3, a4, p6.at fun o e => hk _ o D.l1z D.l1TO D.l1i1 D.l1i2 e, p7.at fun o e => hk _ o D.l2z D.l2TO D.l2i1 D.l2i2 e,
            .inr ⟨s1.heap.objs.size, false, _, a1, a5, lt p1, n1, n2, Nat.ne_of_gt hds⟩⟩
        · exact hk c o (fun x => hc (by simp [x])) (fun x => hc (by simp [x])) (fun x => hc (by simp [x])) (fun x => hc (by simp [x])) e
      · refine sz_next p1 (wpAny_mono (sz_item_held D p1 hT p2 p4 p5 p6 p7 ex ey fun g a1 a3 a4 a5 hk => (hQ s1.heap.objs.size _ _ g s1.toks ⟨ex, ey⟩ (.inl ⟨_, a5, rfl, _, rfl⟩) ?_ fun c o hc e => ?_)) (fun _ _ q => q) fun _ _ q => q)
        · exact ⟨hk _ _ D.TIz D.TIi1 D.TIi2 p2, a3, a4, p6.at fun o e => hk _ o D.l1z D.l1i1 D.l1i2 e, p7.at fun o e => hk _ o D.l2z D.l2i1 D.l2i2 e, .inr ⟨T, true, oT, a1, hk _ _ r1 r2 r3 hT, r1, r2, r3, r4⟩⟩
        · exact hk c o (fun x => hc (by simp [x])) (fun x => hc (by simp [x])) (fun x => hc (by simp [x])) e
    · obtain ⟨p2, p4, p5, p6, p7, p1⟩ := st
      have ex : xs[xs.size]? = none := Array.getElem?_eq_none (Nat.le_refl _)
      have ey : ys[xs.size]? = none := Array.getElem?_eq_none (by rw [hxy]; exact Nat.le_refl _)
      rcases p1 with ⟨p1, a, b, p3⟩ | ⟨T, f, oT, p1, hT, r1, r2, r3, r4⟩
      · refine sz_next p1 (sz_end hA D p1 p2 p3 p4 p5 p6 p7 ex ey fun g e hk he => ⟨?_, hQ g s1.toks fun c o hc e => hk c o (fun x => hc (by simp [x])) (fun x => hc (by simp [x])) (fun x => hc (by simp [x])) (fun x => hc (by simp [x])) e⟩)
        obtain ⟨o, ho, hc⟩ := he
        exact ⟨o, e, rfl, ho, hc⟩
      · refine sz_next p1 (sz_end_held hA D p1 hT p2 p4 p5 p6 p7 ex ey fun g e hk he => ⟨?_, hQ g s1.toks fun c o hc e => hk c o (fun x => hc (by simp [x])) (fun x => hc (by simp [x])) (fun x => hc (by simp [x])) e⟩)
        obtain ⟨o, ho, hc⟩ := he
        exact ⟨o, e, rfl, ho, hc⟩
end K35
end

section
set_option Elab.async false
set_option linter.all false
set_option maxRecDepth 100000
set_option maxHeartbeats 4000000
/-! K5: the calls zip(.., strict=True), dict(zip(..)). -/
namespace K35
open PySem PySem.Spec PyProof.Rows L2
theorem typeCall_szip (a b c : Value) : checkTypeCall "zip" ⟨[a, b], [(Str.ofString "strict", c)]⟩ = pure () := by kernel_rfl
theorem newCall_szip (a b c : Value) : checkBuiltinCall "zip.__new__" ⟨[.type "zip", a, b], [(Str.ofString "strict", c)]⟩ = pure () := by kernel_rfl
theorem args_szip (o a b c : Value) : argsOk "object.__init__" ⟨[o, a, b], [(Str.ofString "strict", c)]⟩ := by
  unfold argsOk
  kernel_rfl
abbrev sz5 (h : Heap) (l1 l2 : Addr) : Heap := (zipH4 h l1 l2).push { cls := .type "zip", data := .fields #[.none, .bool false, .bool true, .ref (zipH2 h l1 l2).objs.size, .ref (zipH3 h l1 l2).objs.size] }
theorem meets_szip (l1 l2 : Addr) (xs ys : Array Value) :
    Meets (Builtin.«zip.__new__» ⟨[.type "zip", .ref l1, .ref l2], [(Str.ofString "strict", .bool true)]⟩) (fun _ R s => s.heap.IsList l1 xs ∧ s.heap.IsList l2 ys ∧
      R (.ok (.ret (.ref (zipH4 s.heap l1 l2).objs.size))) { s with heap := sz5 s.heap l1 l2 }) :=
  .of_wp fun prog w A R s h => by
    obtain ⟨hp, g, d, tk, os⟩ := s
    obtain ⟨p, q, h⟩ := h
    have hsub := sub_zip
    have e2 : (Str.ofString "strict" != ("strict" : Str)) = false := by decide +kernel
    have hL1 : Heap.IsList (Shared.heap ⟨hp, g, d, tk, os⟩) l1 xs := p
    have hL2 : Heap.IsList (Shared.heap ⟨hp.push { cls := .type "list_iterator", data := .fields #[.ref l1, .int 0 0] }, g, d, tk, os⟩) l2 ys := Heap.IsList.push q _
    wp_walk using wpAny_pyIter_list hL1, wpAny_pyIter_list hL2
    exact ⟨_, rfl, h⟩
end K35
end

section
set_option Elab.async false
set_option linter.all false
set_option maxRecDepth 100000
set_option maxHeartbeats 4000000
/-! K5: the calls zip(.., strict=True), dict(zip(..)). -/
namespace K35
open PySem PySem.Spec PyProof.Rows L2
section
variable {prog : Program} {w : World} {A : Around} {E : Value → Shared → Prop} {s : Shared}
theorem call_szip {l1 l2 : Addr} {xs ys : Array Value} {Q : Value → Shared → Prop} (p : s.heap.IsList l1 xs) (q : s.heap.IsList l2 ys)
    (h : ∀ g, Sz g (s.heap.objs.size + 4) (s.heap.objs.size + 2) (s.heap.objs.size + 3) .none (.bool false) → IsPair g (s.heap.objs.size + 2) (.ref s.heap.objs.size) (.ref (s.heap.objs.size + 1)) →
      IsPair g (s.heap.objs.size + 3) .none .none → g.IsListIter s.heap.objs.size l1 0 → g.IsListIter (s.heap.objs.size + 1) l2 0 → (∀ c o, s.heap.get? c = some o → g.get? c = some o) → Q (.ref (s.heap.objs.size + 4)) { s with heap := g }) :
    wpAny (model prog w) A (call (.type "zip") [.ref l1, .ref l2] [(Str.ofString "strict", .bool true)]) Q E s := by
  refine callType_newKw F.called_zip (by decide) (typeCall_szip _ _ _) (newCall_szip _ _ _) (fun o => args_szip o _ _ _) F.entry_zip_new (meets_szip l1 l2 xs ys) ⟨p, q, ?_⟩
  have y1 : (zipH1 s.heap l1).objs.size = s.heap.objs.size + 1 := Heap.size_push ..
  have y2 : (zipH2 s.heap l1 l2).objs.size = s.heap.objs.size + 2 := by rw [Heap.size_push, y1]
  have y3 : (zipH3 s.heap l1 l2).objs.size = s.heap.objs.size + 3 := by rw [Heap.size_push, y2]
  have y4 : (zipH4 s.heap l1 l2).objs.size = s.heap.objs.size + 4 := by rw [Heap.size_push, y3]
  have up : ∀ {h : Heap} {c : Addr} {o u : Obj}, h.get? c = some o → (h.push u).get? c = some o := fun e => Heap.get?_push_of_some _ e
  have g5 : (sz5 s.heap l1 l2).get? (zipH4 s.heap l1 l2).objs.size = some _ := Heap.get?_push_size _ rfl
  have g4 : (sz5 s.heap l1 l2).get? (zipH3 s.heap l1 l2).objs.size = some _ := up (Heap.get?_push_size _ rfl)
  have g3 : (sz5 s.heap l1 l2).get? (zipH2 s.heap l1 l2).objs.size = some _ := up (up (Heap.get?_push_size _ rfl))
  have g2 : (sz5 s.heap l1 l2).get? (zipH1 s.heap l1).objs.size = some _ := up (up (up (Heap.get?_push_size _ rfl)))
  have g1 : (sz5 s.heap l1 l2).get? s.heap.objs.size = some _ := up (up (up (up (Heap.get?_push_size _ rfl))))
  show _ ∧ _
  rw [y2, y3, y4] at g5
  rw [y1, y2] at g3
  rw [y3] at g4
  rw [y1] at g2
  rw [y4]
  exact ⟨⟨_, g5, rfl⟩, h _ g5 g3 g4 ⟨_, g1, rfl, rfl⟩ ⟨_, g2, rfl, rfl⟩ fun c o x => up (up (up (up (up x))))⟩
/-- T(e, .., k=v): a built-in class with keywords -/
theorem callWith_tyK {pos : Pos} {env : Env} {T : String} {e : Expr} {rest : List Expr} {kws : List Keyword} {Q : Value → Shared → Prop}
    (h : wpAny (model prog w) A (spliced (backTo pos (starEach (e :: rest) env))) (fun vs s1 => wpAny (model prog w) A (evalAll ((backToKw pos (keywordEach kws env)).map (·.2)))
      (fun ks s2 => wpAny (model prog w) A (call (.type T) vs (((backToKw pos (keywordEach kws env)).filterMap (·.1)).zip ks)) Q E s2) E s1) E s)
    (he : backTo pos (starEach (e :: rest) env) = (false, eval e env) :: backTo pos (starEach rest env)) (hp : (backTo pos (starEach (e :: rest) env)).any (·.1) = false)
    (ha : (backToKw pos (keywordEach kws env)).all (·.1.isSome) = true) (hn : (backToKw pos (keywordEach kws env)).any (·.1.isNone) = false) :
    wpAny (model prog w) A (callWith pos (.type T) [] (backTo pos (starEach (e :: rest) env)) (backToKw pos (keywordEach kws env))) Q E s := by
  have inner : wpAny (model prog w) A (evalArgs (.type T) true (backTo pos (starEach (e :: rest) env)) (backToKw pos (keywordEach kws env))) (fun a s1 => wpAny (model prog w) A (call (.type T) ([] ++ a.pos) a.kw) Q E s1) E s := by
    rw [he] at h ⊢
    exact PyProof.Rows.evalArgs_kwB ha h
  unfold callWith
  refine wpAny_bind (wpAny_holding (wpAny_mono inner (fun a s1 q => wpAny_bind (wpAny_standAt ?_)) fun _ _ x => x))
  simp only [hp, hn, Bool.or_false]
  exact wpAny_bind (wpAny_pure (wpAny_bind (wpAny_mono q (fun r s2 hr => wpAny_bind (wpAny_holding (wpAny_point (wpAny_pure hr)))) fun _ _ x => x)))
end
section
variable {X : Cx}
/-- what a dict of pairs holds: the keys' list, the values' list -/
def tDz (K : PySem.W.Frag) (eq : Bool) (t : TA) : TE := fun σ H Q => t σ H fun vs H1 => ∃ (a b : Addr) (ks : List Key) (ys : List V), vs = [.ref a, .ref b] ∧ SqL K H1 a (ks.map kV) ∧ SqL K H1 b ys ∧ (eq = true → ys.length = ks.length) ∧ ks.length ≤ sizeLine ∧
  ∀ p, H1 p = none → Q (.ref p) (upd H1 p (.dK (mergeK [] (ks.zip ys))))
theorem keys_are {P : Program} {w : World} : ∀ {ks : List Key} {us : List Value}, Vals (ks.map kV) us → ∀ (i : Nat) (u : Value), us[i]? = some u → ∃ k, ks[i]? = some k ∧ (mixKind P w).is k u = true
  | [], [], .nil, i, u, e => by simp at e
  | k :: ks, v :: us, .cons r t, 0, u, e => by
    have e' : v = u := by simpa using e
    subst e'
    exact ⟨k, rfl, kV_is r⟩
  | k :: ks, v :: us, .cons r t, i + 1, u, e => by
    obtain ⟨k', e1, e2⟩ := keys_are (P := P) (w := w) t i u (by simpa using e)
    exact ⟨k', by simpa using e1, e2⟩
theorem zip_kv : ∀ {ks : List Key} {ys : List V} {us : List Value}, Vals ys us → KV (ks.zip ys) (ks.zip us)
  | [], _, _, _ => .nil
  | _ :: _, [], [], .nil => .nil
  | k :: ks, y :: ys, u :: us, .cons r t => .cons ⟨rfl, r⟩ (zip_kv t)
/-- behind the zip: the dict -/
theorem dz_fin {T : String} {pins : List (Addr × Obj)} {σ : L2.St} {H : Hp} {s s2 : Shared} {Q : VK} {E : Value → Shared → Prop} {ks : List Key} {ys : List V} {us ws : List Value} {n : Nat} {z TI TO i1 i2 l1 l2 : Addr} {OK : Heap → Prop}
    (I : Inv X pins σ H s) (I2 : Inv X pins σ H s2) (hc : X.calm = true) (P : PairArg X.prog X.w T z [z, TI, TO, i1, i2, l1, l2] [z, TO, i1, i2] n (fun i k v => us.toArray[i]? = some k ∧ ws.toArray[i]? = some v) OK) (ok : OK s2.heap)
    (hz : ∀ b ∈ [z, TO, i1, i2], s.heap.objs.size ≤ b) (rk : Vals (ks.map kV) us) (rv : Vals ys ws) (hn : n = min us.length ws.length) (hl : n ≤ sizeLine)
    (q : ∀ p, H p = none → Q (.ref p) (upd H p (.dK (mergeK [] (ks.zip ys))))) : wpAny (model X.prog X.w) X.A (call (.type "dict") [.ref z]) (EP X pins σ Q) E s2 := by
  have lk : ks.length = us.length := by rw [← rk.length, List.length_map]
  refine call_dict_pairs (knd := mixKind X.prog X.w) (kvs := ks.zip ws) P (I2.ok.hd hc) ok ⟨by rw [List.length_zip, lk, hn], fun i key v r => ?_⟩ hl fun g tk dd kp => ?_
  · obtain ⟨r1, r2⟩ := r
    obtain ⟨k, e1, e2⟩ := keys_are (P := X.prog) (w := X.w) rk i key (by simpa using r1)
    exact ⟨k, by rw [List.getElem?_zip_eq_some]; exact ⟨e1, by simpa using r2⟩, e2⟩
  · have hp : H s2.heap.objs.size = none := I2.hok.fresh (Nat.le_refl _)
    have hm := length_mergeK (ks.zip ys) []
    have hzl : (ks.zip ys).length ≤ sizeLine := by
      rw [List.length_zip, lk, rv.length, ← hn]; exact hl
    have new : ObjOk X.prog X.w (upd H s2.heap.objs.size (.dK (mergeK [] (ks.zip ys)))) g s2.heap.objs.size (.dK (mergeK [] (ks.zip ys))) :=
      dk_new (by have := hm; simp only [List.length_nil, Nat.zero_add] at this; omega) (beq_eq_false_iff_ne.mpr (Nat.ne_of_gt I2.big)) (KV.merge (zip_kv rv) .nil) dd
    exact ⟨.ref s2.heap.objs.size, _, I2.turnedNew (ch := [z, TO, i1, i2]) (t' := tk) kp (fun b hb => I.fpOk (hz b hb) (I.hok.fresh (hz b hb))) (Nat.le_refl _) new, rfl, q _ hp⟩
theorem pe_dzip {e e2 : Expr} {p p2 pos pos2 : Pos} {t : TA} (hc : X.calm = true) (hg : Gl X "dict") (hm : X.mg "dict" = none) (hg2 : Gl X "zip") (hm2 : X.mg "zip" = none) (ha : PA X [e, e2] t)
    (hs : starEach [e, e2] X.env = (false, eval e X.env) :: starEach [e2] X.env := by rfl) (hpl : (backTo pos2 (starEach [e2] X.env)).any (·.1) = false := by rfl)
    (hs1 : starEach [.Call (.Name "zip" p2) [e, e2] [] pos2] X.env = (false, eval (.Call (.Name "zip" p2) [e, e2] [] pos2) X.env) :: starEach [] X.env := by rfl) :
    PE X (.Call (.Name "dict" p) [.Call (.Name "zip" p2) [e, e2] [] pos2] [] pos) (tDz X.K false t) := by
  refine ⟨fun pins s σ H Q I h => ?_⟩
  refine wpAny_Call_Name_kw (ld_blt I hg hm PyProof.Rows.boot_dict (PyProof.Rows.callWith_type1 ?_ hs1 rfl))
  rw [hs1]
  refine Calls.spliced_cons ?_
  refine Call_ (ld_blt I hg2 hm2 PyProof.Rows.boot_zip (PyProof.Rows.callWith_type1 (thn (ha.run pos2 pins s σ H _ I h) fun us s1 ⟨vs, H1, I1, r1, q1⟩ => ?_) hs hpl))
  obtain ⟨a, b, ks, ys, ex, hqx, hqy, _, hl, q⟩ := q1
  subst ex
  obtain ⟨u1, u2, rfl, ra, rb⟩ := vals2 r1
  cases ra
  cases rb
  obtain ⟨its, rv, p1, _⟩ := I1.list hqx
  obtain ⟨its2, rv2, p2', _⟩ := I1.list hqy
  have la : a < s1.heap.objs.size := p1.lt
  have lb : b < s1.heap.objs.size := p2'.lt
  refine call_zip_2 p1.isList p2'.isList fun g hz hTI hTO h1 h2 hsz hk => ?_
  have I2 : Inv X pins σ H1 { s1 with heap := g } := I1.kept (t' := s1.toks) hk
  refine Calls.spliced_nil ?_
  have D := PySem.W.ktu_apart s1.heap.objs.size a b la lb
  refine dz_fin (n := min its.toArray.size its2.toArray.size) I1 I2 hc (PairArg.zip _ _ _ _ _ _ _ D _ _) ⟨hz, hTI, ⟨_, _, hTO⟩, h1, h2, p1.isList.at (hk _), p2'.isList.at (hk _)⟩ (fun c hcm => ?_) rv rv2 (by simp) ?_ q
  · simp only [List.mem_cons, List.not_mem_nil, or_false] at hcm
    rcases hcm with z | z | z | z <;> rw [z]
    · exact Nat.le_add_right _ _
    · exact Nat.le_add_right _ _
    · exact Nat.le_refl _
    · exact Nat.le_add_right _ _
  · have := rv.length
    rw [List.length_map] at this
    simp only [List.size_toArray]
    omega
theorem pe_dzipS {e e2 : Expr} {p p2 p3 p4 pos pos2 : Pos} {kd : Nat} {t : TA} (hc : X.calm = true) (hg : Gl X "dict") (hm : X.mg "dict" = none) (hg2 : Gl X "zip") (hm2 : X.mg "zip" = none) (ha : PA X [e, e2] t)
    (hs : backTo pos2 (starEach [e, e2] X.env) = (false, eval e X.env) :: backTo pos2 (starEach [e2] X.env) := by rfl) (hpl : (backTo pos2 (starEach [e, e2] X.env)).any (·.1) = false := by rfl)
    (hs1 : starEach [.Call (.Name "zip" p2) [e, e2] [⟨some "strict", .Constant (.bool true) kd p3, p4⟩] pos2] X.env = (false, eval (.Call (.Name "zip" p2) [e, e2] [⟨some "strict", .Constant (.bool true) kd p3, p4⟩] pos2) X.env) :: starEach [] X.env := by rfl) :
    PE X (.Call (.Name "dict" p) [.Call (.Name "zip" p2) [e, e2] [⟨some "strict", .Constant (.bool true) kd p3, p4⟩] pos2] [] pos) (tDz X.K true t) := by
  refine ⟨fun pins s σ H Q I h => ?_⟩
  refine wpAny_Call_Name_kw (ld_blt I hg hm PyProof.Rows.boot_dict (PyProof.Rows.callWith_type1 ?_ hs1 rfl))
  rw [hs1]
  refine Calls.spliced_cons ?_
  refine wpAny_Call_Name_kw (ld_blt I hg2 hm2 PyProof.Rows.boot_zip (callWith_tyK (thn (ha.run pos2 pins s σ H _ I h) fun us s1 ⟨vs, H1, I1, r1, q1⟩ => ?_) hs hpl rfl rfl))
  refine thn ((pk_cons (nm := some "strict") pe_bl pk_nil).run pos2 pins s1 σ H1 (fun zs H2 => zs = [.bl true] ∧ H2 = H1) I1 ⟨rfl, rfl⟩) fun ws s2 ⟨zs, H2, I3, r2, q2⟩ => ?_
  obtain ⟨rfl, rfl⟩ := q2
  obtain ⟨w1, rfl, rw1⟩ := vals1 r2
  cases rw1
  obtain ⟨a, b, ks, ys, ex, hqx, hqy, heq, hl, q⟩ := q1
  subst ex
  obtain ⟨u1, u2, rfl, ra, rb⟩ := vals2 r1
  cases ra
  cases rb
  obtain ⟨its, rv, p1, _⟩ := I3.list hqx
  obtain ⟨its2, rv2, p2', _⟩ := I3.list hqy
  have la : a < s2.heap.objs.size := p1.lt
  have lb : b < s2.heap.objs.size := p2'.lt
  have l1 := rv.length
  have l2 := rv2.length
  rw [List.length_map] at l1
  have le := heq rfl
  refine call_szip p1.isList p2'.isList fun g hz hTI hTO h1 h2 hk => ?_
  have I2 : Inv X pins σ H2 { s2 with heap := g } := I3.kept (t' := s2.toks) hk
  refine Calls.spliced_nil ?_
  have D := PySem.W.ktu_apart s2.heap.objs.size a b la lb
  refine dz_fin (n := its.toArray.size) I3 I2 hc (sz_arg _ _ _ _ _ _ _ D _ _ (by simp only [List.size_toArray]; omega)) ⟨hz, hTI, ⟨_, _, hTO⟩, h1, h2, p1.isList.at (hk _), p2'.isList.at (hk _)⟩ (fun c hcm => ?_) rv rv2 (by simp only [List.size_toArray]; omega) ?_ q
  · simp only [List.mem_cons, List.not_mem_nil, or_false] at hcm
    rcases hcm with z | z | z | z <;> rw [z]
    · exact Nat.le_add_right _ _
    · exact Nat.le_add_right _ _
    · exact Nat.le_refl _
    · exact Nat.le_add_right _ _
  · simp only [List.size_toArray]
    omega
end
end K35
end

section
set_option Elab.async false
set_option linter.all false
set_option maxRecDepth 100000
set_option maxHeartbeats 4000000
/-! K6: {k: v for a in xs for b in a}: a dict comprehension of two clauses without tests. -/
namespace K35
open PySem PySem.Spec PyProof.Rows L2
abbrev dc2 (kx vx t0 i0 t1 i1 : Expr) (sc : Scope) (pos : Pos) : Expr := .DictComp kx vx [⟨t0, i0, [], 0⟩, ⟨t1, i1, [], 0⟩] sc pos
section
variable {prog : Program} {w : World} {A : Around} {R : Result → Shared → Prop} {s : Shared} {kx vx t0 i0 t1 i1 : Expr} {sc : Scope} {pos : Pos} {it : Value} {D : Addr} {env : Env}
abbrev nb (prog : Program) (w : World) (A : Around) (env : Env) (R : Result → Shared → Prop) : Value → Shared → Prop := notedBy (model prog w) A env fun e s' => R (.error e) s'
theorem turn_out : compTurn (dc2 kx vx t0 i0 t1 i1 sc pos) 0 it (.ref D) env = (do
      standAt i0.pos
      match ← pyNext it with
      | none => pure (.done .next)
      | some v =>
        letOwnedTupleGo t0 it v
        assign t0 env v
        let x ← eval i1 env
        standAt i1.pos
        let x ← foldedSetIterable i1 env x
        let _ ← runOwn (.compStart (dc2 kx vx t0 i0 t1 i1 sc pos) 1 (← holding [x] (pyIter x)) (.ref D) env) env
        again (.compLoop (dc2 kx vx t0 i0 t1 i1 sc pos) 0 it (.ref D) env)) := by rfl
theorem turn_in : compTurn (dc2 kx vx t0 i0 t1 i1 sc pos) 1 it (.ref D) env = (do
      standAt i1.pos
      match ← pyNext it with
      | none => pure (.done .next)
      | some v =>
        letOwnedTupleGo t1 it v
        assign t1 env v
        (do
          let kv ← eval kx env
          let vv ← holding [kv] (eval vx env)
          standAt { kx.pos with endLine := vx.pos.endLine, endCol := vx.pos.endCol }
          holding [kv, vv] (dictSet D kv vv))
        again (.compLoop (dc2 kx vx t0 i0 t1 i1 sc pos) 1 it (.ref D) env)) := by rfl
theorem loop_out (hs : ∀ x, foldedSetIterable i1 env x = pure x) (I : Nat → Shared → Prop)
    (turn : ∀ n s, I n s → wpAny (model prog w) A (pyNext it) (fun r s1 => match r with
      | none => R (.ok .next) s1
      | some v => wpAny (model prog w) A (letOwnedTupleGo t0 it v) (fun _ s2 => wpAny (model prog w) A (assign t0 env v) (fun _ s3 => wpAny (model prog w) A (eval i1 env) (fun x s4 => wpAny (model prog w) A (pyIter x) (fun j s5 =>
          codeAny (model prog w) A (.compStart (dc2 kx vx t0 i0 t1 i1 sc pos) 1 j (.ref D) env) (fun r s' => match r with
            | .ok _ => ∃ m, m < n ∧ I m s'
            | .error _ => False) s5) (nb prog w A env R) s4) (nb prog w A env R) s3) (nb prog w A env R) s2) (nb prog w A env R) s1) (nb prog w A env R) s) (n : Nat) (h : I n s) :
    codeAny (model prog w) A (.compLoop (dc2 kx vx t0 i0 t1 i1 sc pos) 0 it (.ref D) env) R s := by
  refine codeAny_loop rfl I (fun n s hI => ?_) n h
  show wpAny _ A ((compTurn (dc2 kx vx t0 i0 t1 i1 sc pos) 0 it (.ref D) env).onRaise (fun x => do noteFrame x env; theTreesLotGoes x)) _ _ s
  refine wpAny_noted ?_
  rw [turn_out]
  refine wpAny_bind (wpAny_standAt (wpAny_bind (wpAny_mono (turn n s hI) (fun r s1 q1 => ?_) fun _ _ z => z)))
  cases r with
  | none => exact wpAny_pure q1
  | some v =>
    refine wpAny_bind (wpAny_mono q1 (fun _ s2 q2 => wpAny_bind (wpAny_mono q2 (fun _ s3 q3 => ?_) fun _ _ z => z)) fun _ _ z => z)
    refine wpAny_bind (wpAny_mono q3 (fun x s4 q4 => ?_) fun _ _ z => z)
    refine wpAny_bind (wpAny_standAt (wpAny_bind (wpAny_of_eq (hs x) (wpAny_bind (wpAny_holding (wpAny_mono q4 (fun j s5 q5 => ?_) fun _ _ z => z))))))
    refine wpAny_bind (wpAny_runOwn ?_)
    rw [Around.mark_none]
    refine codeAny_mono q5 fun r s' hr => ?_
    cases r with
    | error e => exact hr.elim
    | ok f => exact wpAny_pure ⟨rfl, hr⟩
theorem loop_in (I : Nat → Shared → Prop)
    (turn : ∀ n s, I n s → wpAny (model prog w) A (pyNext it) (fun r s1 => match r with
      | none => R (.ok .next) s1
      | some v => wpAny (model prog w) A (letOwnedTupleGo t1 it v) (fun _ s2 => wpAny (model prog w) A (assign t1 env v) (fun _ s3 => wpAny (model prog w) A (eval kx env) (fun kv s4 => wpAny (model prog w) A (eval vx env) (fun vv s5 =>
          wpAny (model prog w) A (dictSet D kv vv) (fun _ s6 => ∃ m, m < n ∧ I m s6) (nb prog w A env R) s5) (nb prog w A env R) s4) (nb prog w A env R) s3) (nb prog w A env R) s2) (nb prog w A env R) s1) (nb prog w A env R) s) (n : Nat) (h : I n s) :
    codeAny (model prog w) A (.compLoop (dc2 kx vx t0 i0 t1 i1 sc pos) 1 it (.ref D) env) R s := by
  refine codeAny_loop rfl I (fun n s hI => ?_) n h
  show wpAny _ A ((compTurn (dc2 kx vx t0 i0 t1 i1 sc pos) 1 it (.ref D) env).onRaise (fun x => do noteFrame x env; theTreesLotGoes x)) _ _ s
  refine wpAny_noted ?_
  rw [turn_in]
  refine wpAny_bind (wpAny_standAt (wpAny_bind (wpAny_mono (turn n s hI) (fun r s1 q1 => ?_) fun _ _ z => z)))
  cases r with
  | none => exact wpAny_pure q1
  | some v =>
    refine wpAny_bind (wpAny_mono q1 (fun _ s2 q2 => wpAny_bind (wpAny_mono q2 (fun _ s3 q3 => ?_) fun _ _ z => z)) fun _ _ z => z)
    exact wpAny_bind (wpAny_bind (wpAny_mono q3 (fun kv s4 q4 => wpAny_bind (wpAny_holding (wpAny_mono q4 (fun vv s5 q5 => wpAny_bind (wpAny_standAt (wpAny_holding (wpAny_mono q5 (fun _ s6 q6 => wpAny_pure ⟨rfl, q6⟩) fun _ _ z => z)))) fun _ _ z => z))) fun _ _ z => z))
theorem start_in (h0 : codeAny (model prog w) A (.compLoop (dc2 kx vx t0 i0 t1 i1 sc pos) 1 it (.ref D) env) R s)
    (h : wpAny (model prog w) A (pyIter it) (fun j s' => codeAny (model prog w) A (.compLoop (dc2 kx vx t0 i0 t1 i1 sc pos) 1 j (.ref D) env) R s') (nb prog w A env R) s) :
    codeAny (model prog w) A (.compStart (dc2 kx vx t0 i0 t1 i1 sc pos) 1 it (.ref D) env) R s := by
  refine codeAny_of_tree ?_
  show wpAny _ _ ((compStart (dc2 kx vx t0 i0 t1 i1 sc pos) 1 it (.ref D) env).onRaise (fun x => do noteFrame x env; standAt theWindowsPlace)) _ _ s
  refine wpAny_notedAt ?_
  unfold compStart
  show wpAny _ _ (ask >>= _) _ _ s
  refine wpAny_bind (wpAny_askSetting (wpAny_ite ?_))
  split
  · first
      | exact wpAny_bind (wpAny_pure (wpAny_pure (And.intro rfl h0)))
      | exact wpAny_pure (And.intro rfl h0)
  · first
      | exact wpAny_bind (wpAny_rule (wpAny_bind (wpAny_standAt (wpAny_bind (wpAny_mono h (fun j s' z => wpAny_pure (And.intro rfl z)) fun _ _ x => x)))))
      | (refine wpAny_bind (wpAny_rule ?_); show wpAny _ _ (standAt i1.pos >>= _) _ _ s; exact wpAny_bind (wpAny_standAt (wpAny_bind (wpAny_mono h (fun j s' z => wpAny_pure (And.intro rfl z)) fun _ _ x => x))))
end
section
variable {X : Cx}
/-- the reading: the outer walk J, at each of its items the inner walk J1, at each of its items the key and the value -/
def tDc2 (wi : TI) (g : TG) (wi1 : TI) (g1 : TG) (tk tv : TE) (vs vs1 : List Nat) : TE := fun σ H Q => wi σ H fun J H1 => ∀ D, H1 D = none → ∃ W : Nat → Nat → Hp → Prop, (∃ m, W 0 m (upd H1 D (.dK []))) ∧ ∀ i m H, W i m H →
  (J.stop i H ∧ Q (.ref D) H) ∨ (J.go i H ∧ ∃ Nx : Hp → Prop, (∀ H', Nx H' → ∃ m', m' < m ∧ W (i + 1) m' H') ∧ ∀ x H', J.yld i H x H' → g x (wipe σ vs) H' fun σ2 H2 => wipe σ2 vs = wipe σ vs ∧
    wi1 σ2 H2 fun J1 H4 => ∃ W1 : Nat → Nat → Hp → Prop, (∃ m, W1 0 m H4) ∧ ∀ j k H, W1 j k H →
      (J1.stop j H ∧ Nx H) ∨ (J1.go j H ∧ ∃ Nx1 : Hp → Prop, (∀ H', Nx1 H' → ∃ k', k' < k ∧ W1 (j + 1) k' H') ∧ ∀ x H', J1.yld j H x H' → g1 x (wipe σ2 vs1) H' fun σ3 H5 => wipe σ3 vs1 = wipe σ2 vs1 ∧
        tk σ3 H5 fun y H6 => tv σ3 H6 fun z H7 => ∃ kvs k, y = kV k ∧ H7 D = some (.dK kvs) ∧ kvs.length < sizeLine ∧ Nx1 (upd H7 D (.dK (putK kvs k z)))))
abbrev Blk (X : Cx) (sc : Scope) (F : Cx → Prop) : Prop := ∀ (s : Shared) (H : Hp) (C : Addr) (cl : List (Str × Addr)) (fp : List Addr), F (X.blk s H sc (compEnvC sc cl C X.env) fp)
theorem dc2_core {pins : List (Addr × Obj)} {s : Shared} {σ : L2.St} {H : Hp} {Q : VK} {use : Option (Value → Sem Unit)} {Qf : Value → Shared → Prop} {pos' : Pos} {kx vx t0 i0 t1 i1 : Expr} {sc : Scope} {own : List (Str × Nat)} {vs1 : List Nat} {pos : Pos} {wi wi1 : TI} {g g1 : TG} {tk tv : TE} (hc : X.calm = true) (hN : X.N.Nodup) (I : Inv X pins σ H s) (hi : PI X t0 i0 wi) (ok : BlkOk X.N X.env.scope sc own) (hv : ∀ i ∈ vs1, i ∈ own.map (·.2))
    (hg : Blk X sc fun Y => PG Y t0 g) (hi1 : Blk X sc fun Y => PI Y t1 i1 wi1) (hg1 : Blk X sc fun Y => PG Y t1 g1) (hk : Blk X sc fun Y => PE Y kx tk) (he : Blk X sc fun Y => PE Y vx tv)
    (hs : ∀ x, foldedSetIterable i0 X.env x = pure x) (hs1 : ∀ env x, foldedSetIterable i1 env x = pure x) (h : tDc2 wi g wi1 g1 tk tv (own.map (·.2)) vs1 σ H Q)
    (hRR : ∀ D C s' m H', Inv X pins σ H' s' → Q (.ref D) H' → s'.heap.Ns C m → FpOk X pins H' C → compPost (model X.prog X.w) X.A X.xe use Qf (.ref D) C (.ok .next) s') :
    wpAny (model X.prog X.w) X.A (comprehension (dc2 kx vx t0 i0 t1 i1 sc pos) sc X.env pos' newDict false (eval i0 X.env) use) Qf X.xe s := by
  have hfree : ∀ y ∈ sc.names, y.2 = .free → ∃ c, X.env.cells.lookup y.1 = some c := fun y hy e => (ok.free y hy e).elim (fun z => I.ok.has _ (.inl z)) fun z => I.ok.has _ (.inr z)
  refine wpAny_comprehension_free (use := use) rfl hs (closure_ok hfree) ok.kind (fun y hy e => by rw [ok.uniq y hy, e]) (thn (hi.run pins s σ H _ I h) fun xv s1 hx => thn hx fun itv s2 h2 => ?_)
  obtain ⟨it, fp, tn, J, H2, e, I2, T, st2, f2, q⟩ := h2
  subst e
  refine wpAny_newObj_type (newEnv_comp ?_)
  generalize hD : s2.heap.objs.size = D
  have hDn : H2 D = none := I2.hok.fresh (Nat.le_of_eq hD)
  obtain ⟨W, ⟨m0, w0⟩, turn⟩ := q D hDn
  generalize hs3 : ({ s2 with heap := s2.heap.push { cls := .type "dict", data := .dict #[] } } : Shared) = s3
  have I3 : Inv X pins σ (upd H2 D (.dK [])) s3 := by
    rw [← hs3]
    refine I2.laid (t' := s2.toks) (fun b o e => Heap.get?_push_of_some _ e) (Nat.le_of_eq hD) ?_
    rw [← hD]
    exact dk_empty s2.heap I2.big
  have h3 : s3.heap = s2.heap.push { cls := .type "dict", data := .dict #[] } := by rw [← hs3]
  have f3 : ∀ b ∈ fp, FpOk X pins (upd H2 D (.dK [])) b ∧ b < s3.heap.objs.size := fun b hb => by
    obtain ⟨o, e, _⟩ := T.obj _ _ st2 b hb
    have hlt := Heap.lt_size e
    exact ⟨⟨by rw [upd_ne (by rw [← hD]; exact Nat.ne_of_lt hlt)]; exact (f2 b hb).1, (f2 b hb).2⟩, by rw [h3, Heap.size_push]; exact Nat.lt_succ_of_lt hlt⟩
  have st3 : tn 0 s3.heap := T.keep _ _ _ st2 fun b _ o e => by rw [h3]; exact Heap.get?_push_of_some _ e
  have I4 := block_start I3 ok hN f3
  have pg := hg s3 (upd H2 D (.dK [])) s3.heap.objs.size (cellsFrom (s3.heap.objs.size + 1) sc.names (cloFrom X.env.cells sc.names [])) fp
  have pk := hk s3 (upd H2 D (.dK [])) s3.heap.objs.size (cellsFrom (s3.heap.objs.size + 1) sc.names (cloFrom X.env.cells sc.names [])) fp
  have pe := he s3 (upd H2 D (.dK [])) s3.heap.objs.size (cellsFrom (s3.heap.objs.size + 1) sc.names (cloFrom X.env.cells sc.names [])) fp
  have pi1 := hi1 s3 (upd H2 D (.dK [])) s3.heap.objs.size (cellsFrom (s3.heap.objs.size + 1) sc.names (cloFrom X.env.cells sc.names [])) fp
  have pg1 := hg1 s3 (upd H2 D (.dK [])) s3.heap.objs.size (cellsFrom (s3.heap.objs.size + 1) sc.names (cloFrom X.env.cells sc.names [])) fp
  show codeAny _ _ (.compStart (dc2 kx vx t0 i0 t1 i1 sc pos) 0 (.ref it) (.ref D) (compEnvC sc (cellsFrom (s3.heap.objs.size + 1) sc.names (cloFrom X.env.cells sc.names [])) s3.heap.objs.size X.env)) (compPost (model X.prog X.w) X.A X.xe use Qf (.ref D) s3.heap.objs.size) { s3 with heap := pushCells (s3.heap.push { cls := .type "dict", data := .dict #[] }) sc.names }
  have nfp : ∀ b ∈ fp, (upd H2 D (.dK [])) b = none := fun b hb => (f3 b hb).1.1
  generalize hce : compEnvC sc (cellsFrom (s3.heap.objs.size + 1) sc.names (cloFrom X.env.cells sc.names [])) s3.heap.objs.size X.env = ce at I4 pg pk pe pi1 pg1 ⊢
  have cL : ce.locals = s3.heap.objs.size := by subst hce; rfl
  generalize hH3 : upd H2 D (.dK []) = H3 at I3 I4 pg pk pe pi1 pg1 w0 nfp f3
  generalize hs4 : ({ s3 with heap := pushCells (s3.heap.push { cls := .type "dict", data := .dict #[] }) sc.names } : Shared) = s4 at I4 ⊢
  have st4 : tn 0 s4.heap := T.keep _ _ _ st3 fun b _ o e => by rw [← hs4]; exact pushCells_keeps _ _ _ _ (Heap.get?_push_of_some _ e)
  have stat : ∀ {σ' : L2.St} {H' : Hp} {s' : Shared}, Inv (X.blk s3 H3 sc ce fp) [] σ' H' s' → (∀ b ∈ fp, H' b = none) → ∀ b ∈ fp, FpOk (X.blk s3 H3 sc ce fp) [] H' b := fun {σ' H' s'} I' hn b hb =>
    ⟨hn b hb, (I'.ok.exf b hb).1, I'.ok.exfs b hb, .inl hb, fun x c e => (I'.ok.exf b hb).2 x c e, fun p hp => absurd (show p ∈ ([] : List (Addr × Obj)) ++ [] from hp) (by simp)⟩
  have loop : codeAny (model X.prog X.w) X.A (.compLoop (dc2 kx vx t0 i0 t1 i1 sc pos) 0 (.ref it) (.ref D) ce) (compPost (model X.prog X.w) X.A X.xe use Qf (.ref D) s3.heap.objs.size) s4 := by
    refine loop_out (hs1 ce) (fun n s' => ∃ i H', Inv (X.blk s3 H3 sc ce fp) [] (wipe σ (own.map (·.2))) H' s' ∧ tn i s'.heap ∧ (∀ b ∈ fp, H' b = none) ∧ W i n H') ?_ m0 ⟨0, H3, I4, st4, nfp, w0⟩
    rintro n s5 ⟨i, H5, I5, st5, n5, w5⟩
    rcases turn i n H5 w5 with ⟨stop, qq⟩ | ⟨go, Nx, hNx, step⟩
    · refine thnF (T.done (X.blk s3 H3 sc ce fp) rfl rfl rfl hc i [] s5 _ H5 (fun _ _ => False) I5 (stat I5 n5) st5 stop) fun r s6 ⟨hr, I6⟩ => ?_
      subst hr
      have I7 : Inv X pins σ H5 s6 := I3.call' (ch := fp) I6.os I6.base I6.hok I6.bare fun b hb => let z := (f3 b hb).1.2; ⟨z.2.2.1, z.1, z.2.2.2.1, z.2.2.2.2⟩
      have nC : H5 s3.heap.objs.size = none := by
        have z : H5 ce.locals = none := I6.free
        rw [cL] at z
        exact z
      obtain ⟨m, hn, _⟩ := I6.loc
      have hn : s6.heap.Ns ce.locals m := hn
      rw [cL] at hn
      exact hRR D _ s6 m H5 I7 qq hn (I3.fpOk (Nat.le_refl _) nC)
    · refine thnF (T.item (X.blk s3 H3 sc ce fp) rfl rfl rfl hc i [] s5 _ H5 (fun _ _ => False) I5 (stat I5 n5) st5 go) fun r s6 ⟨u, hr, h6⟩ => ?_
      subst hr
      refine thnF h6 fun _ s7 ⟨x, H7, I7, r7, y7, st7, n7⟩ => ?_
      have I7' := I7.pinned (stat I7 n7) (T.obj _ _ st7)
      refine thnF (pg.run _ s7 _ H7 x u _ I7' r7 (step x H7 y7)) fun _ s8 ⟨σ8, H8, I8, hw8, q8⟩ => ?_
      -- the outer turn's end
      have fin : ∀ {s' : Shared} {H' : Hp}, Inv (X.blk s3 H3 sc ce fp) ([] ++ pinsAt fp s7.heap) (wipe σ8 vs1) H' s' → Nx H' →
          ∃ m, m < n ∧ ∃ i H', Inv (X.blk s3 H3 sc ce fp) [] (wipe σ (own.map (·.2))) H' s' ∧ tn i s'.heap ∧ (∀ b ∈ fp, H' b = none) ∧ W i m H' := fun {s' H'} I' nx => by
        obtain ⟨m', hm, w'⟩ := hNx H' nx
        have pin' : ∀ b ∈ fp, ∀ o, s7.heap.get? b = some o → s'.heap.get? b = some o ∧ H' b = none := fun b hb o e =>
          let z := I'.pin (b, o) (List.mem_append_right _ (List.mem_append_right _ (mem_pinsAt hb e)))
          ⟨z.1, z.2.1⟩
        refine ⟨m', hm, i + 1, H', (I'.unpinned (pins := [])).weak (by rw [← hw8, wipe_length, wipe_length]) (fun j v e => ?_), T.keep _ _ _ st7 fun b hb o e => (pin' b hb o e).1, fun b hb => ?_, w'⟩
        · rw [← hw8] at e
          obtain ⟨e1, e2⟩ := wipe_some e
          rw [wipe_out fun z => e2 (hv j z)]
          exact e1
        · obtain ⟨o, e, _⟩ := T.obj _ _ st7 b hb
          exact (pin' b hb o e).2
      refine thnF (pi1.run _ s8 σ8 H8 _ I8 q8) fun xv s10 hx => thnF hx fun itv s11 h11 => ?_
      obtain ⟨it1, fp1, tn1, J1, H11, e1, I11, T1, st11, f11, W1, ⟨m1, w1⟩, turn1⟩ := h11
      subst e1
      have stat1 : ∀ {H' : Hp}, (∀ b ∈ fp1, H' b = none) → ∀ b ∈ fp1, FpOk (X.blk s3 H3 sc ce fp) ([] ++ pinsAt fp s7.heap) H' b := fun hn b hb => ⟨hn b hb, (f11 b hb).2⟩
      have loop1 : codeAny (model X.prog X.w) X.A (.compLoop (dc2 kx vx t0 i0 t1 i1 sc pos) 1 (.ref it1) (.ref D) ce)
          (fun r s' => match r with
            | .ok _ => ∃ m, m < n ∧ ∃ i H', Inv (X.blk s3 H3 sc ce fp) [] (wipe σ (own.map (·.2))) H' s' ∧ tn i s'.heap ∧ (∀ b ∈ fp, H' b = none) ∧ W i m H'
            | .error _ => False) s11 := by
        refine loop_in (fun k s' => ∃ j H', Inv (X.blk s3 H3 sc ce fp) ([] ++ pinsAt fp s7.heap) (wipe σ8 vs1) H' s' ∧ tn1 j s'.heap ∧ (∀ b ∈ fp1, H' b = none) ∧ W1 j k H') ?_ m1 ⟨0, H11, I11.weak (wipe_length _ _) (fun j v e => (wipe_some e).1), st11, fun b hb => (f11 b hb).1, w1⟩
        rintro k s12 ⟨j, H12, I12, st12, n12, w12⟩
        rcases turn1 j k H12 w12 with ⟨stop1, nx1⟩ | ⟨go1, Nx1, hNx1, step1⟩
        · refine thnF (T1.done (X.blk s3 H3 sc ce fp) rfl rfl rfl hc j _ s12 (wipe σ8 vs1) H12 (fun _ _ => False) I12 (stat1 n12) st12 stop1) fun r s13 ⟨hr, I13⟩ => ?_
          subst hr
          exact fin I13 nx1
        · refine thnF (T1.item (X.blk s3 H3 sc ce fp) rfl rfl rfl hc j _ s12 (wipe σ8 vs1) H12 (fun _ _ => False) I12 (stat1 n12) st12 go1) fun r s13 ⟨u1, hr, h13⟩ => ?_
          subst hr
          refine thnF h13 fun _ s14 ⟨x1, H14, I14, r14, y14, st14, n14⟩ => ?_
          have I14' := I14.pinned (stat1 n14) (T1.obj _ _ st14)
          refine thnF (pg1.run _ s14 (wipe σ8 vs1) H14 x1 u1 _ I14' r14 (step1 x1 H14 y14)) fun _ s15 ⟨σ15, H15, I15, hw15, q15⟩ => ?_
          refine thnF (pk.run _ s15 σ15 H15 _ I15 q15) fun kv s16 ⟨yk, H16, I16, r16, q16⟩ => ?_
          refine thnF (pe.run _ s16 σ15 H16 _ I16 q16) fun vv s17 ⟨yv, H17, I17, r17, kvs, key, ek, hD17, hz17, nx⟩ => ?_
          subst ek
          refine d_dictSet (X := X.blk s3 H3 sc ce fp) I17 hD17 hz17 r16 r17 fun s18 I18 => ?_
          obtain ⟨m', hm, w'⟩ := hNx1 _ nx
          have pin' : ∀ b ∈ fp1, ∀ o, s14.heap.get? b = some o → s18.heap.get? b = some o ∧ (upd H17 D (.dK (putK kvs key yv))) b = none := fun b hb o e =>
            let z := I18.pin (b, o) (List.mem_append_right _ (List.mem_append_right _ (mem_pinsAt hb e)))
            ⟨z.1, z.2.1⟩
          refine ⟨m', hm, j + 1, _, I18.unpinned.weak (by rw [← hw15, wipe_length]) (fun j v e => by rw [← hw15] at e; exact (wipe_some e).1), T1.keep _ _ _ st14 fun b hb o e => (pin' b hb o e).1, fun b hb => ?_, w'⟩
          obtain ⟨o, e, _⟩ := T1.obj _ _ st14 b hb
          exact (pin' b hb o e).2
      exact start_in loop1 (T1.self X.A 0 _ _ _ st11 loop1)
  exact codeAny_compStart_dict loop (T.self X.A 0 _ _ _ st4 loop)
theorem pe_dc2 {kx vx t0 i0 t1 i1 : Expr} {sc : Scope} {own : List (Str × Nat)} {vs1 : List Nat} {pos : Pos} {wi wi1 : TI} {g g1 : TG} {tk tv : TE} (hc : X.calm = true) (hN : X.N.Nodup) (hi : PI X t0 i0 wi) (ok : BlkOk X.N X.env.scope sc own) (hv : ∀ i ∈ vs1, i ∈ own.map (·.2))
    (hg : Blk X sc fun Y => PG Y t0 g) (hi1 : Blk X sc fun Y => PI Y t1 i1 wi1) (hg1 : Blk X sc fun Y => PG Y t1 g1) (hk : Blk X sc fun Y => PE Y kx tk) (he : Blk X sc fun Y => PE Y vx tv)
    (hs : ∀ x, foldedSetIterable i0 X.env x = pure x := by intro _; rfl) (hs1 : ∀ env x, foldedSetIterable i1 env x = pure x := by intro _ _; rfl) : PE X (dc2 kx vx t0 i0 t1 i1 sc pos) (tDc2 wi g wi1 g1 tk tv (own.map (·.2)) vs1) := by
  refine ⟨fun pins s σ H Q I h => ?_⟩
  rw [arm_eval_DictComp]
  refine dc2_core hc hN I hi ok hv hg hi1 hg1 hk he hs hs1 h fun D C s' m H' I' q hn f => ⟨m, hn, fun h'' sb => ?_⟩
  obtain ⟨f0, f1, f2, f3, f4, f5⟩ := f
  exact ⟨.ref D, H', I'.turned (t' := s'.toks) (fun b o hb e => (sb.2 b hb).trans e) f0 f1 f3 f4 f5, rfl, q⟩
theorem ps_setDc2 {i : Nat} {y : Str} {py spos : Pos} {kx vx t0 i0 t1 i1 : Expr} {sc : Scope} {own : List (Str × Nat)} {vs1 : List Nat} {pos : Pos} {wi wi1 : TI} {g g1 : TG} {tk tv : TE} (hc : X.calm = true) (hN : X.N.Nodup) (hy : X.N[i]? = some y) (hyl : X.env.scope.names.lookup y = some .local) (hsw : swapsWith (dc2 kx vx t0 i0 t1 i1 sc pos) (some (.Name y py)) spos.line X.env = pure true) (hi : PI X t0 i0 wi) (ok : BlkOk X.N X.env.scope sc own) (hv : ∀ i ∈ vs1, i ∈ own.map (·.2))
    (hg : Blk X sc fun Y => PG Y t0 g) (hi1 : Blk X sc fun Y => PI Y t1 i1 wi1) (hg1 : Blk X sc fun Y => PG Y t1 g1) (hk : Blk X sc fun Y => PE Y kx tk) (he : Blk X sc fun Y => PE Y vx tv)
    (hs : ∀ x, foldedSetIterable i0 X.env x = pure x := by intro _; rfl) (hs1 : ∀ env x, foldedSetIterable i1 env x = pure x := by intro _ _; rfl) : PS X (.Assign [.Name y py] (dc2 kx vx t0 i0 t1 i1 sc pos) spos) (tAsg (tDc2 wi g wi1 g1 tk tv (own.map (·.2)) vs1) (gName i)) := by
  refine ⟨fun pins s σ H D I h => ?_⟩
  rw [exec_Assign_Name_used _ _ _ _ hsw]
  refine wpAny_bind (wpAny_standAt (wpAny_bind ?_))
  show wpAny _ X.A (do let _ ← comprehension (dc2 kx vx t0 i0 t1 i1 sc pos) sc X.env (firstIterPos [⟨t0, i0, [], 0⟩, ⟨t1, i1, [], 0⟩] pos) newDict false (eval i0 X.env) (some (assign (.Name y py) X.env))) _ _ s
  have h : tDc2 wi g wi1 g1 tk tv (own.map (·.2)) vs1 σ H (fun x H1 => gName i x σ H1 D.nx) := h
  refine wpAny_bind (thn (dc2_core (Qf := fun _ s' => SP X pins D .next s') hc hN I hi ok hv hg hi1 hg1 hk he hs hs1 h fun L C s' m H' I' q hn f => ?_) fun _ s' hq => wpAny_pure (wpAny_pure hq))
  show wpAny _ _ (assign (.Name y py) X.env (.ref L)) _ _ _
  refine wpAny_assign_Name (store_ok2 (v := V.ref L) I' hN hy (.inl hyl) rfl (fun s2 I2 ⟨a, sb, ha⟩ => ?_) (.inr hyl))
  obtain ⟨f0, f1, f2, f3, f4, f5⟩ := f
  have haC : C ≠ a := by
    rcases ha with z | z
    · rw [z]; exact f1
    · exact fun e => f4 y a z e.symm
  refine ⟨m, hn.sameBut sb haC, fun h3 sb3 => ?_⟩
  exact ⟨_, H', I2.turned (t' := s2.toks) (fun b o hb e => (sb3.2 b hb).trans e) f0 f1 f3 f4 f5, q⟩
/-- name = {..} on one line -/
theorem ps_setDc {i : Nat} {y : Str} {py : Pos} {kx vx tg iter : Expr} {ifs : List Expr} {scope : Scope} {own : List (Str × Nat)} {pos spos : Pos} {wi : TI} {g : TG} {tt : TT} {tk tv : TE} (hc : X.calm = true) (hN : X.N.Nodup) (hy : X.N[i]? = some y) (hyl : X.env.scope.names.lookup y = some .local)
    (hsw : swapsWith (.DictComp kx vx [⟨tg, iter, ifs, 0⟩] scope pos) (some (.Name y py)) spos.line X.env = pure true) (hi : PI X tg iter wi) (ok : BlkOk X.N X.env.scope scope own)
    (hg : Blk X scope fun Y => PG Y tg g) (ht : Blk X scope fun Y => PTs Y ifs tt) (hk : Blk X scope fun Y => PE Y kx tk) (he : Blk X scope fun Y => PE Y vx tv) (hs : ∀ x, foldedSetIterable iter X.env x = pure x := by intro _; rfl) :
    PS X (.Assign [.Name y py] (.DictComp kx vx [⟨tg, iter, ifs, 0⟩] scope pos) spos) (tAsg (tDc wi g tt tk tv (own.map (·.2))) (gName i)) := by
  refine ⟨fun pins s σ H D I h => ?_⟩
  rw [exec_Assign_Name_used _ _ _ _ hsw]
  refine wpAny_bind (wpAny_standAt (wpAny_bind ?_))
  show wpAny _ X.A (do let _ ← comprehension (.DictComp kx vx [⟨tg, iter, ifs, 0⟩] scope pos) scope X.env (firstIterPos [⟨tg, iter, ifs, 0⟩] pos) newDict false (eval iter X.env) (some (assign (.Name y py) X.env))) _ _ s
  have h : tDc wi g tt tk tv (own.map (·.2)) σ H (fun x H1 => gName i x σ H1 D.nx) := h
  refine wpAny_bind (thn (dc_core (Qf := fun _ s' => SP X pins D .next s') hc hN I hi ok hg ht hk he hs h fun L C s' m H' I' q hn f => ?_) fun _ s' hq => wpAny_pure (wpAny_pure hq))
  show wpAny _ _ (assign (.Name y py) X.env (.ref L)) _ _ _
  refine wpAny_assign_Name (store_ok2 (v := V.ref L) I' hN hy (.inl hyl) rfl (fun s2 I2 ⟨a, sb, ha⟩ => ?_) (.inr hyl))
  obtain ⟨f0, f1, f2, f3, f4, f5⟩ := f
  have haC : C ≠ a := by
    rcases ha with z | z
    · rw [z]; exact f1
    · exact fun e => f4 y a z e.symm
  refine ⟨m, hn.sameBut sb haC, fun h3 sb3 => ?_⟩
  exact ⟨_, H', I2.turned (t' := s2.toks) (fun b o hb e => (sb3.2 b hb).trans e) f0 f1 f3 f4 f5, q⟩
theorem sw_trueD {kx vx : Expr} {gs : List Comprehension} {scope : Scope} {pos py : Pos} {y : Str} {l : Nat} {env : Env} (hk : env.scope.kind = .function) (hy : env.scope.names.lookup y = some .local) (hl : (py.line == pos.line) = true)
    (ha : (scope.names.any fun (n, k) => n == y && (k == .local || k == .cell)) = false) : swapsWith (.DictComp kx vx gs scope pos) (some (.Name y py)) l env = pure true := by
  have ky : env.kindOf y = some .local := hy
  have hb : env.blockKind = .function := by unfold Env.blockKind; rw [hk]; rfl
  unfold swapsWith
  simp only [hb, ky, ha, Expr.pos, hl]
  rfl
end
end K35
end

section
set_option Elab.async false
set_option linter.all false
set_option maxRecDepth 100000
set_option maxHeartbeats 4000000
/-! K7: sorted(parts, key=len), parts a list of lists. -/
namespace K35
open PySem PySem.Spec PyProof.Rows L2
def backA : Int × Value → Addr
  | (_, .ref a) => a
  | _ => 0
section
variable {X : Cx}
/-- ps: where the lists stand; ln: how long they are; qs: the same lists by their lengths -/
def kSortLen (K : PySem.W.Frag) (Q : VK) (v : V) (H1 : Hp) : Prop := ∃ (a : Addr) (ps : List Addr) (ln : Addr → Nat), v = .ref a ∧ SqL K H1 a (ps.map V.ref) ∧ (∀ p ∈ ps, ∃ xs, H1 p = some (.lst xs) ∧ xs.length = ln p) ∧ ps.length < 64 ∧
  ∀ (qs : List Addr) (D : Addr), qs.Perm ps → qs.Pairwise (fun a b => ln a ≤ ln b) → H1 D = none → Q (.ref D) (upd H1 D (.lst (qs.map V.ref)))
def tSortLen (K : PySem.W.Frag) (t : TE) : TE := fun σ H Q => t σ H (kSortLen K Q)
def one1 (k : V → Hp → Prop) : List V → Hp → Prop
  | [v], H => k v H
  | _, _ => False
/-- behind a rule over the ledger: one new object -/
theorem new_of_news {pins : List (Addr × Obj)} {σ : L2.St} {H : Hp} {s : Shared} {h' : Heap} {tk : Nat} {m : Str → Option Value} {D : Addr} {o : Obj} {ob : HO} (I : Inv X pins σ H s) (F0 : Fr X.base X.env.locals s.heap m) (F : Fr X.base X.env.locals h' m)
    (N : News X.base X.env.locals h' ((D, o) :: allNews X.base s.heap X.env.locals)) (hD : s.heap.get? D = none) (hn : H D = none) (new : ObjOk X.prog X.w (upd H D ob) h' D ob) : Inv X pins σ (upd H D ob) { s with heap := h', toks := tk } := by
  have old : ∀ b o, b ≠ X.env.locals → s.heap.get? b = some o → h'.get? b = some o := fun b o hb e => by
    cases q : X.base.get? b with
    | some u =>
      have z := (I.bs b u q).1
      rw [e] at z
      cases z
      exact F.keep b _ q
    | none => exact (N (b, o) (List.mem_cons_of_mem _ (mem_allNews hb q e))).1
  have hL := I.lt
  obtain ⟨oL, esL, epL, hoL, _⟩ := F.ns
  refine I.step (g' := s.gens) (d' := s.drawn) (ch := []) (fun _ z => nomatch z) (fun b o hb _ _ e _ => old b o hb e) (fun b o hb _ _ e _ => ⟨o.slots, old b o hb e⟩) (fun b o _ e n => ?_) (fun b o _ e => ?_) (fun b xs e => ?_) (fun b o u e => ?_) (fun b ps e => ⟨#[], ?_⟩) (fun m' hm => ?_) (fun b u e => ?_) I.bare
  · have nb : b ≠ D := fun z => by rw [z, hD] at e; cases e
    rw [upd_ne nb]; exact n
  · by_cases hb : b = X.env.locals
    · subst hb; exact ⟨_, hoL⟩
    · exact ⟨o, old b o hb e⟩
  · rw [upd_ne (ne_of_none e hn)]; exact e
  · rw [upd_ne (ne_of_none e hn)]; exact e
  · rw [upd_ne (ne_of_none e hn), e]; simp
  · rw [SlX.ns_only hm F0.ns]; exact F.ns
  · by_cases hb : b = D
    · subst hb
      rw [upd_same] at e
      cases e
      exact new
    · rw [upd_ne hb] at e
      refine (I.hok b u e).stay (fun c v hc q => old c v ?_ q) (fun c q => by rw [upd_ne (ne_of_none q hn)]; exact q) fun c xs q => by rw [upd_ne (ne_of_none q hn)]; exact q
      rintro rfl
      rcases hc with z | z
      · rw [← z, I.free] at e; cases e
      · rw [I.free] at z; cases z
theorem objOk_ex {prog : Program} {w : World} {H : Hp} {h : Heap} {a : Addr} {o : HO} (x : ObjOk prog w H h a o) : ∃ o', h.get? a = some o' := by
  cases o with
  | lst xs => obtain ⟨_, _, _, _, e⟩ := x; exact ⟨_, e⟩
  | tup xs => obtain ⟨_, _, _, p⟩ := x; obtain ⟨_, e, _⟩ := p; exact ⟨_, e⟩
  | dK kvs => obtain ⟨_, _, _, _, o, _, _, e, _⟩ := x; exact ⟨_, e⟩
  | dT kvs => obtain ⟨_, _, _, _, o, _, _, e, _⟩ := x; exact ⟨_, e⟩
  | set S n => obtain ⟨o, _, _, _, e, _⟩ := x; exact ⟨_, e⟩
  | ins C dx fs => obtain ⟨_, _, _, e, _⟩ := x; exact ⟨_, e⟩
  | own y => obtain ⟨_, e⟩ := x; exact ⟨_, e⟩
  | xd fs => obtain ⟨_, ⟨_, _, _, e, _⟩, _⟩ := x; exact ⟨_, e⟩
  | rng lo hi => obtain ⟨_, _, _, e⟩ := x; exact ⟨_, e⟩
  | frz ob u => obtain ⟨e, _⟩ := x; exact ⟨_, e⟩
  | tbl ps => exact ⟨_, show h.get? a = some _ from x⟩
  | met f y => exact ⟨_, show h.get? a = some _ from x⟩
  | ext φ => obtain ⟨_, ⟨_, e⟩, _⟩ := x; exact ⟨_, e⟩
theorem refs_of : ∀ {ps : List Addr} {us : List Value}, Vals (ps.map V.ref) us → us = ps.map Value.ref
  | [], _, .nil => rfl
  | p :: ps, u :: us, .cons r t => by
    have r' : u = Value.ref p := r
    rw [r', refs_of t]; rfl
theorem vals_refs : ∀ ps : List Addr, Vals (ps.map V.ref) (ps.map Value.ref)
  | [] => .nil
  | _ :: ps => .cons rfl (vals_refs ps)
theorem pe_sortLen {e : Expr} {p p2 p3 pos : Pos} {t : TE} (hg : Gl X "sorted") (hm : X.mg "sorted" = none) (hg2 : Gl X "len") (hm2 : X.mg "len" = none) (ha : PE X e t)
    (he : backTo pos (starEach [e] X.env) = (false, eval e X.env) :: backTo pos (starEach [] X.env) := by rfl) (hpl : (backTo pos (starEach [e] X.env)).any (·.1) = false := by rfl)
    (hs1 : starEach [e] X.env = (false, eval e X.env) :: starEach [] X.env := by rfl) :
    PE X (.Call (.Name "sorted" p) [e] [⟨some "key", .Name "len" p2, p3⟩] pos) (tSortLen X.K t) := by
  refine ⟨fun pins s σ H Q I h => ?_⟩
  refine wpAny_Call_Name_kw (ld_blt I hg hm (show bootBuiltins "sorted" = some (.builtin "sorted") by decide +kernel) ?_)
  refine PyProof.Rows.callWith_kw (thn ((pa_cons ha pa_nil hs1).run pos pins s σ H (one1 (kSortLen X.K Q)) I h) fun us s1 ⟨vs, H1, I1, r1, q1⟩ => ?_) he hpl rfl rfl
  obtain ⟨v, rfl⟩ : ∃ v, vs = [v] := by
    match vs, q1 with
    | [v], _ => exact ⟨v, rfl⟩
    | [], q1 => exact q1.elim
    | _ :: _ :: _, q1 => exact q1.elim
  obtain ⟨a, ps, ln, rfl, hq, hls, h64, q⟩ := (show kSortLen X.K Q v H1 from q1)
  obtain ⟨u, rfl, ru⟩ := vals1 r1
  cases ru
  show wpAny _ _ (evalAll ((do let v ← eval (.Name "len" p2) X.env; standAt pos; pure v) :: [])) _ _ s1
  refine wpAny_evalAll_cons (wpAny_bind (ld_blt I1 hg2 hm2 PySem.boot_len (wpAny_bind (wpAny_standAt (wpAny_pure (wpAny_evalAll_nil ?_))))))
  obtain ⟨its, rv, pl, _⟩ := I1.list hq
  have eits := refs_of rv
  subst eits
  obtain ⟨m, F⟩ := I1.fr
  refine PyProof.Rows.ksk_sorted (b := false) (kz := ps.map fun p => ((ln p : Nat) : Int)) F news_all pl.isList (by simp) (by simpa using h64) (PyProof.Rows.ksk_s1 _ _) (fun _ => PyProof.Rows.ksk_l1 _ _) (fun _ => PyProof.Rows.ksk_t4 _ _) (fun i w k hv hk g tk own F' N' => ?_) fun D g tk out c F' N' l1 ko => ?_
  · rw [List.getElem?_map] at hv hk
    cases ei : ps[i]? with
    | none => rw [ei] at hv; cases hv
    | some b =>
      rw [ei] at hv hk
      obtain rfl : Value.ref b = w := Option.some.inj hv
      obtain rfl : ((ln b : Nat) : Int) = k := Option.some.inj hk
      obtain ⟨xs, hb, hl⟩ := hls b (List.mem_of_getElem? ei)
      obtain ⟨z, ys, n, ry, hob⟩ := I1.hok b _ hb
      have bL : b ≠ X.env.locals := fun z => by rw [z, I1.free] at hb; cases hb
      have bB : X.base.get? b = none := by
        cases e : X.base.get? b with
        | none => rfl
        | some o =>
          have z := (I1.bs b o e).2
          rw [hb] at z; cases z
      have hg : g.get? b = _ := (N' (b, _) (List.mem_append_left _ (mem_allNews bL bB hob))).1
      have hlen := ry.length
      have e1 : ys.toArray.size = ln b := by rw [List.size_toArray, ← hlen, hl]
      refine Calls.call_len_list (items := ys.toArray) ⟨_, hg, rfl, _, rfl⟩ (by rw [sizeLine_eq] at z; simp only [List.size_toArray]; omega) ?_
      rw [e1]
      exact PyProof.Rows.KskEnd.intro F' N' fun _ hp => hp
  · obtain ⟨zs, hp, ho, hw⟩ := ko
    have ez : (ps.map fun p => ((ln p : Nat) : Int)).zip (ps.map Value.ref) = ps.map fun p => (((ln p : Nat) : Int), Value.ref p) := by
      rw [List.zip_map', ]
    rw [ez] at hp
    have hmem : ∀ z ∈ zs, ∃ p ∈ ps, z = (((ln p : Nat) : Int), Value.ref p) := fun z hz => by
      obtain ⟨p, hp', e⟩ := List.mem_map.mp (hp.mem_iff.mp hz)
      exact ⟨p, hp', e.symm⟩
    have e1 : zs = (zs.map backA).map fun p => (((ln p : Nat) : Int), Value.ref p) := by
      rw [List.map_map]
      refine (List.map_id zs).symm.trans (List.map_congr_left fun z hz => ?_)
      obtain ⟨p, _, rfl⟩ := hmem z hz
      rfl
    have hperm : (zs.map backA).Perm ps := by
      have := hp.map backA
      rw [List.map_map] at this
      refine this.trans (List.Perm.of_eq ?_)
      exact (List.map_congr_left fun p _ => rfl).trans (List.map_id ps)
    have hpw : (zs.map backA).Pairwise fun a b => ln a ≤ ln b := by
      rw [e1] at hw
      rw [List.pairwise_map] at hw
      exact hw.imp fun {a b} h => by simpa using h
    have eo : out.toList = (zs.map backA).map Value.ref := by
      rw [ho]
      conv => lhs; rw [e1]
      rw [List.map_map]; rfl
    have hD : s1.heap.get? D = none := by
      cases eD : s1.heap.get? D with
      | none => rfl
      | some o =>
        exfalso
        have hoD := (N' _ List.mem_cons_self).1
        cases q : X.base.get? D with
        | some u =>
          have z := (N' _ List.mem_cons_self).2.2
          rw [q] at z; cases z
        | none =>
          by_cases hb : D = X.env.locals
          · exact (N' _ List.mem_cons_self).2.1 hb
          · exact Nat.lt_irrefl _ (l1 (D, o) (mem_allNews hb q eD))
    have hn : H1 D = none := by
      cases e : H1 D with
      | none => rfl
      | some o => obtain ⟨o', z⟩ := objOk_ex (I1.hok D o e); rw [hD] at z; cases z
    have hlen : ((zs.map backA).map V.ref).length ≤ sizeLine := by
      rw [List.length_map, hperm.length_eq, sizeLine_eq]; omega
    refine ⟨.ref D, _, new_of_news (ob := .lst ((zs.map backA).map V.ref)) I1 F F' N' hD hn ⟨hlen, (zs.map backA).map Value.ref, c, vals_refs _, ?_⟩, rfl, q _ D hperm hpw hn⟩
    rw [← eo]
    exact (N' _ List.mem_cons_self).1
end
end K35
end

section
set_option linter.all false
/-! M1: one-to-one maps as partial functions on numbers; iterates; rows; renaming. Plain Lean. -/
namespace CM
abbrev PF := Nat → Option Nat
structure PI (n : Nat) (f : PF) : Prop where
  dom : ∀ {x y}, f x = some y → x < n ∧ y < n
  inj : ∀ {x x' y}, f x = some y → f x' = some y → x = x'

/-! ### lists of small numbers -/
theorem nodup_filter {α : Type} {l : List α} (h : l.Nodup) (p : α → Bool) : (l.filter p).Nodup := h.sublist List.filter_sublist
theorem perm_small {n : Nat} {l : List Nat} (hn : l.Nodup) (h : ∀ x ∈ l, x < n) : l.Perm ((List.range n).filter fun x => decide (x ∈ l)) := by
  refine (List.perm_ext_iff_of_nodup hn (nodup_filter List.nodup_range _)).2 fun a => ?_
  simp only [List.mem_filter, List.mem_range, decide_eq_true_eq]
  exact ⟨fun ha => ⟨h a ha, ha⟩, fun z => z.2⟩
theorem pigeon {n : Nat} {l : List Nat} (hn : l.Nodup) (h : ∀ x ∈ l, x < n) : l.length ≤ n := by
  have p := (perm_small hn h).length_eq
  have q := List.length_filter_le (fun x => decide (x ∈ l)) (List.range n)
  rw [List.length_range] at q
  omega
theorem perm_range {n : Nat} {l : List Nat} (hn : l.Nodup) (h : ∀ x ∈ l, x < n) (hl : l.length = n) : l.Perm (List.range n) := by
  have p := perm_small hn h
  have e : (List.range n).filter (fun x => decide (x ∈ l)) = List.range n := by
    refine List.Sublist.eq_of_length List.filter_sublist ?_
    rw [← p.length_eq, hl, List.length_range]
  rw [e] at p
  exact p
theorem nodup_map_on {α β : Type} {f : α → β} : ∀ {l : List α}, l.Nodup → (∀ x ∈ l, ∀ y ∈ l, f x = f y → x = y) → (l.map f).Nodup
  | [], _, _ => List.nodup_nil
  | a :: l, h, hf => by
    rw [List.nodup_cons] at h
    rw [List.map_cons, List.nodup_cons]
    refine ⟨fun hm => ?_, nodup_map_on h.2 fun x hx y hy => hf x (List.mem_cons_of_mem _ hx) y (List.mem_cons_of_mem _ hy)⟩
    obtain ⟨b, hb, e⟩ := List.mem_map.mp hm
    have := hf b (List.mem_cons_of_mem _ hb) a List.mem_cons_self e
    exact h.1 (this ▸ hb)
theorem nodup_get {α : Type} {l : List α} (h : l.Nodup) {i j : Nat} {a : α} (hi : l[i]? = some a) (hj : l[j]? = some a) : i = j := by
  obtain ⟨h1, e1⟩ := List.getElem?_eq_some_iff.mp hi
  obtain ⟨h2, e2⟩ := List.getElem?_eq_some_iff.mp hj
  exact (List.getElem_inj h).mp (e1.trans e2.symm)

/-! ### iterates -/
def it (f : PF) : Nat → Nat → Option Nat
  | 0, x => some x
  | k + 1, x => (f x).bind (it f k)
section
variable {n : Nat} {f : PF}
theorem it_add (a b x : Nat) : it f (a + b) x = (it f a x).bind (it f b) := by
  induction a generalizing x with
  | zero => rw [Nat.zero_add]; rfl
  | succ a ih =>
    rw [show a + 1 + b = (a + b) + 1 from by omega]
    show (f x).bind (it f (a + b)) = ((f x).bind (it f a)).bind (it f b)
    cases f x with
    | none => rfl
    | some y => exact ih y
theorem it_one (x : Nat) : it f 1 x = f x := by
  show (f x).bind (it f 0) = f x
  cases f x <;> rfl
theorem it_succ' (k x : Nat) : it f (k + 1) x = (it f k x).bind f := by
  rw [it_add k 1 x]
  cases it f k x with
  | none => rfl
  | some y => exact it_one y
theorem it_lt (h : PI n f) : ∀ {k x y}, x < n → it f k x = some y → y < n
  | 0, x, y, hx, e => by cases e; exact hx
  | k + 1, x, y, hx, e => by
    rw [it_succ'] at e
    cases q : it f k x with
    | none => rw [q] at e; cases e
    | some z => rw [q] at e; exact (h.dom e).2
theorem it_inj (h : PI n f) : ∀ {k x x' y}, it f k x = some y → it f k x' = some y → x = x'
  | 0, x, x', y, e, e' => by cases e; cases e'; rfl
  | k + 1, x, x', y, e, e' => by
    rw [it_succ'] at e e'
    cases q : it f k x with
    | none => rw [q] at e; cases e
    | some z =>
      cases q' : it f k x' with
      | none => rw [q'] at e'; cases e'
      | some z' =>
        rw [q] at e
        rw [q'] at e'
        have := h.inj (show f z = some y from e) (show f z' = some y from e')
        rw [← this] at q'
        exact it_inj h q q'
theorem it_none_mono {k m x : Nat} (h : it f k x = none) (hm : k ≤ m) : it f m x = none := by
  obtain ⟨d, rfl⟩ : ∃ d, m = k + d := ⟨m - k, by omega⟩
  rw [it_add, h]; rfl
theorem it_mul {L x : Nat} (h : it f L x = some x) : ∀ q, it f (L * q) x = some x
  | 0 => rfl
  | q + 1 => by rw [Nat.mul_succ, it_add, it_mul h q]; exact h
theorem it_mod {L x : Nat} (hL : 0 < L) (h : it f L x = some x) (m : Nat) : it f m x = it f (m % L) x := by
  have e := Nat.div_add_mod m L
  rw [← e, it_add, it_mul h]
  simp only [Option.bind_some]
  rw [Nat.mul_add_mod, Nat.mod_mod]
end

/-! ### rows -/
def rowGo (f : PF) (x0 : Nat) : Nat → Nat → List Nat
  | 0, cur => [cur]
  | k + 1, cur => match f cur with
    | some y => if y = x0 then [cur] else cur :: rowGo f x0 k y
    | none => [cur]
def row (n : Nat) (f : PF) (x : Nat) : List Nat := rowGo f x n x
structure RowOk (n : Nat) (f : PF) (x : Nat) (r : List Nat) : Prop where
  pos : 0 < r.length
  nth : ∀ i, i < r.length → r[i]? = it f i x
  nd : r.Nodup
  last : it f r.length x = none ∨ it f r.length x = some x
section
variable {n : Nat} {f : PF} {x : Nat}
/-- a path from x that has not come back -/
structure Pre (n : Nat) (f : PF) (x : Nat) (r : List Nat) : Prop where
  nth : ∀ i, i < r.length → r[i]? = it f i x
  nd : r.Nodup
theorem Pre.lt (h : PI n f) (hx : x < n) {r : List Nat} (p : Pre n f x r) : ∀ y ∈ r, y < n := fun y hy => by
  obtain ⟨i, e⟩ := List.mem_iff_getElem?.mp hy
  have hi := (List.getElem?_eq_some_iff.mp e).1
  rw [p.nth i hi] at e
  exact it_lt h hx e
theorem Pre.small (h : PI n f) (hx : x < n) {r : List Nat} (p : Pre n f x r) : r.length ≤ n := pigeon p.nd (p.lt h hx)
theorem Pre.one (n : Nat) (f : PF) (x : Nat) : Pre n f x [x] := ⟨fun i hi => by
  have : i = 0 := by simpa using hi
  subst this; rfl, by simp⟩
/-- one step further -/
theorem Pre.step (h : PI n f) {pre : List Nat} {cur y : Nat} (p : Pre n f x (pre ++ [cur])) (e : f cur = some y) (hy : y ≠ x) : Pre n f x (pre ++ [cur] ++ [y]) := by
  have hlen : (pre ++ [cur]).length = pre.length + 1 := by simp
  have hcur : it f pre.length x = some cur := by
    rw [← p.nth pre.length (by omega)]; simp
  have hnew : it f (pre.length + 1) x = some y := by rw [it_succ', hcur]; exact e
  refine ⟨fun i hi => ?_, ?_⟩
  · by_cases hlt : i < (pre ++ [cur]).length
    · rw [List.getElem?_append_left hlt]
      exact p.nth i hlt
    · have hi' : i = pre.length + 1 := by simp at hi; omega
      subst hi'
      rw [hnew]; simp
  · rw [List.nodup_append]
    refine ⟨p.nd, by simp, fun a ha b hb => ?_⟩
    have hb' : b = y := by simpa using hb
    subst hb'
    rintro rfl
    obtain ⟨j, ej⟩ := List.mem_iff_getElem?.mp ha
    have hj := (List.getElem?_eq_some_iff.mp ej).1
    have ej' := ej
    rw [p.nth j hj] at ej'
    cases j with
    | zero => exact hy (Option.some.inj ej').symm
    | succ j =>
      rw [it_succ'] at ej'
      cases q : it f j x with
      | none => rw [q] at ej'; cases ej'
      | some z =>
        rw [q] at ej'
        have hz : z = cur := h.inj (show f z = some a from ej') e
        have e1 : (pre ++ [cur])[j]? = some cur := by rw [p.nth j (by omega), q, hz]
        have e2 : (pre ++ [cur])[pre.length]? = some cur := by simp
        have := nodup_get p.nd e1 e2
        omega
theorem rowGo_ok (h : PI n f) (hx : x < n) : ∀ (k : Nat) (pre : List Nat) (cur : Nat), Pre n f x (pre ++ [cur]) → n + 1 ≤ (pre ++ [cur]).length + k → RowOk n f x (pre ++ rowGo f x k cur)
  | 0, pre, cur, p, hk => by
    have := p.small h hx
    omega
  | k + 1, pre, cur, p, hk => by
    have hcur : it f pre.length x = some cur := by
      rw [← p.nth pre.length (by simp)]; simp
    have hl : (pre ++ [cur]).length = pre.length + 1 := by simp
    have fin : (f cur = none ∨ f cur = some x) → RowOk n f x (pre ++ [cur]) := fun e => ⟨by omega, p.nth, p.nd, by
      rw [hl, it_succ', hcur]; exact e⟩
    unfold rowGo
    cases e : f cur with
    | none => exact fin (.inl e)
    | some y =>
      dsimp only
      by_cases hy : y = x
      · rw [if_pos hy]
        exact fin (.inr (by rw [e, hy]))
      · rw [if_neg hy]
        have := rowGo_ok h hx k (pre ++ [cur]) y (p.step h e hy) (by simp at hk ⊢; omega)
        rw [List.append_assoc] at this
        exact this
theorem row_ok (h : PI n f) (hx : x < n) : RowOk n f x (row n f x) := rowGo_ok h hx n [] x (Pre.one n f x) (by simp; omega)
section
variable {r : List Nat}
theorem RowOk.head (r0 : RowOk n f x r) : r[0]? = some x := r0.nth 0 r0.pos
theorem RowOk.lt (h : PI n f) (hx : x < n) (r0 : RowOk n f x r) : ∀ y ∈ r, y < n := Pre.lt h hx ⟨r0.nth, r0.nd⟩
theorem RowOk.small (h : PI n f) (hx : x < n) (r0 : RowOk n f x r) : r.length ≤ n := pigeon r0.nd (r0.lt h hx)
/-- what any iterate gives, on a closed row, on an open one -/
theorem RowOk.closed (r0 : RowOk n f x r) (c : it f r.length x = some x) (m : Nat) : it f m x = r[m % r.length]? := by
  rw [it_mod r0.pos c, r0.nth _ (Nat.mod_lt _ r0.pos)]
theorem RowOk.open_ (r0 : RowOk n f x r) (c : it f r.length x = none) (m : Nat) : it f m x = r[m]? := by
  by_cases hm : m < r.length
  · rw [r0.nth m hm]
  · rw [it_none_mono c (by omega), List.getElem?_eq_none (by omega)]
theorem RowOk.pow_closed (r0 : RowOk n f x r) (c : it f r.length x = some x) {i y : Nat} (e : r[i]? = some y) (k : Nat) : it f k y = r[(i + k) % r.length]? := by
  have hi := (List.getElem?_eq_some_iff.mp e).1
  rw [← r0.closed c, it_add, ← r0.nth i hi, e]; rfl
theorem RowOk.pow_open (r0 : RowOk n f x r) (c : it f r.length x = none) {i y : Nat} (e : r[i]? = some y) (k : Nat) : it f k y = r[i + k]? := by
  have hi := (List.getElem?_eq_some_iff.mp e).1
  rw [← r0.open_ c, it_add, ← r0.nth i hi, e]; rfl
/-- the last one -/
theorem RowOk.last_some (r0 : RowOk n f x r) : ∃ l, r[r.length - 1]? = some l ∧ f l = it f r.length x := by
  have hp := r0.pos
  have h1 : r.length - 1 < r.length := by omega
  refine ⟨r[r.length - 1], List.getElem?_eq_getElem h1, ?_⟩
  have e := r0.nth _ h1
  rw [List.getElem?_eq_getElem h1] at e
  have e2 : it f r.length x = (it f (r.length - 1) x).bind f := by
    have : r.length = (r.length - 1) + 1 := by omega
    rw [this]
    exact it_succ' _ _
  rw [e2, ← e]; rfl
/-- reached from x: in the row -/
theorem RowOk.mem_iff (r0 : RowOk n f x r) {y : Nat} : y ∈ r ↔ ∃ k, it f k x = some y := by
  constructor
  · intro hy
    obtain ⟨i, e⟩ := List.mem_iff_getElem?.mp hy
    have hi := (List.getElem?_eq_some_iff.mp e).1
    exact ⟨i, by rw [← r0.nth i hi, e]⟩
  · rintro ⟨k, e⟩
    rcases r0.last with c | c
    · rw [r0.open_ c] at e
      exact List.mem_iff_getElem?.mpr ⟨_, e⟩
    · rw [r0.closed c] at e
      exact List.mem_iff_getElem?.mpr ⟨_, e⟩
end
end

/-! ### inverse, product, common part -/
def invF (n : Nat) (f : PF) : PF := fun y => (List.range n).find? fun x => f x == some y
def mulF (f g : PF) : PF := fun x => (f x).bind g
def andF (f g : PF) : PF := fun x => if f x = g x then f x else none
def powF (f : PF) (k : Nat) : PF := fun x => it f k x
def idF (n : Nat) : PF := fun x => if x < n then some x else none
section
variable {n : Nat} {f g : PF}
theorem invF_iff (h : PI n f) {x y : Nat} : invF n f y = some x ↔ f x = some y := by
  unfold invF
  constructor
  · intro e
    have := List.find?_some e
    simpa using this
  · intro e
    cases q : (List.range n).find? fun z => f z == some y with
    | none =>
      have := List.find?_eq_none.mp q x (List.mem_range.mpr (h.dom e).1)
      simp [e] at this
    | some z =>
      have := List.find?_some q
      have hz : f z = some y := by simpa using this
      rw [h.inj hz e]
theorem invF_pi (h : PI n f) : PI n (invF n f) where
  dom := fun {x y} e => ((h.dom ((invF_iff h).mp e)).symm)
  inj := fun {x x' y} e e' => by
    have a := (invF_iff h).mp e
    have b := (invF_iff h).mp e'
    rw [a] at b
    exact Option.some.inj b
theorem mulF_pi (hf : PI n f) (hg : PI n g) : PI n (mulF f g) where
  dom := fun {x y} e => by
    obtain ⟨z, e1, e2⟩ := Option.bind_eq_some_iff.mp e
    exact ⟨(hf.dom e1).1, (hg.dom e2).2⟩
  inj := fun {x x' y} e e' => by
    obtain ⟨z, e1, e2⟩ := Option.bind_eq_some_iff.mp e
    obtain ⟨z', e1', e2'⟩ := Option.bind_eq_some_iff.mp e'
    have := hg.inj e2 e2'
    subst this
    exact hf.inj e1 e1'
theorem andF_iff {x y : Nat} : andF f g x = some y ↔ f x = some y ∧ g x = some y := by
  unfold andF
  by_cases h : f x = g x
  · rw [if_pos h, h]; simp
  · rw [if_neg h]
    exact ⟨fun e => (nomatch e), fun e => absurd (e.1.trans e.2.symm) h⟩
theorem andF_pi (hf : PI n f) : PI n (andF f g) where
  dom := fun e => hf.dom (andF_iff.mp e).1
  inj := fun e e' => hf.inj (andF_iff.mp e).1 (andF_iff.mp e').1
theorem idF_pi : PI n (idF n) where
  dom := fun {x y} e => by
    unfold idF at e
    by_cases h : x < n
    · rw [if_pos h] at e; cases e; exact ⟨h, h⟩
    · rw [if_neg h] at e; cases e
  inj := fun {x x' y} e e' => by
    unfold idF at e e'
    by_cases h : x < n
    · by_cases h' : x' < n
      · rw [if_pos h] at e; rw [if_pos h'] at e'; cases e; cases e'; rfl
      · rw [if_neg h'] at e'; cases e'
    · rw [if_neg h] at e; cases e
theorem powF_pi (h : PI n f) {k : Nat} (hk : 0 < k) : PI n (powF f k) where
  dom := fun {x y} e => by
    obtain ⟨j, rfl⟩ : ∃ j, k = j + 1 := ⟨k - 1, by omega⟩
    have e' : it f (j + 1) x = some y := e
    have e2 := e'
    rw [it_succ'] at e'
    obtain ⟨z, e1, e3⟩ := Option.bind_eq_some_iff.mp e'
    obtain ⟨z', e4, _⟩ := Option.bind_eq_some_iff.mp (show (f x).bind (it f j) = some y from e2)
    exact ⟨(h.dom e4).1, (h.dom e3).2⟩
  inj := fun e e' => it_inj h e e'
theorem PI.none_of (h : PI n f) {x : Nat} (hx : n ≤ x) : f x = none := by
  cases e : f x with
  | none => rfl
  | some y => have := (h.dom e).1; omega
end

/-! ### renaming -/
structure Pm (n : Nat) (p : Nat → Nat) : Prop where
  lt : ∀ {x}, x < n → p x < n
  inj : ∀ {x y}, x < n → y < n → p x = p y → x = y
def Ren (n : Nat) (p : Nat → Nat) (f g : PF) : Prop := ∀ x, x < n → g (p x) = (f x).map p
section
variable {n : Nat} {p : Nat → Nat} {f g f' g' : PF}
theorem Pm.perm (P : Pm n p) : ((List.range n).map p).Perm (List.range n) := by
  refine perm_range (nodup_map_on List.nodup_range fun x hx y hy e => P.inj (List.mem_range.mp hx) (List.mem_range.mp hy) e) (fun y hy => ?_) (by simp)
  obtain ⟨x, hx, rfl⟩ := List.mem_map.mp hy
  exact P.lt (List.mem_range.mp hx)
theorem Pm.surj (P : Pm n p) {y : Nat} (hy : y < n) : ∃ x, x < n ∧ p x = y := by
  obtain ⟨x, hx, e⟩ := List.mem_map.mp (P.perm.mem_iff.mpr (List.mem_range.mpr hy))
  exact ⟨x, List.mem_range.mp hx, e⟩
theorem Ren.uniq (P : Pm n p) (hg : PI n g) (hg' : PI n g') (r : Ren n p f g) (r' : Ren n p f g') : g = g' := by
  funext y
  by_cases hy : y < n
  · obtain ⟨x, hx, rfl⟩ := P.surj hy
    rw [r x hx, r' x hx]
  · rw [hg.none_of (by omega), hg'.none_of (by omega)]
theorem Ren.back (P : Pm n p) (hf : PI n f) (hf' : PI n f') (r : Ren n p f g) (r' : Ren n p f' g) : f = f' := by
  funext x
  by_cases hx : x < n
  · have e := (r x hx).symm.trans (r' x hx)
    cases q : f x with
    | none =>
      rw [q] at e
      cases q' : f' x with
      | none => rfl
      | some z => rw [q'] at e; cases e
    | some y =>
      rw [q] at e
      cases q' : f' x with
      | none => rw [q'] at e; cases e
      | some z =>
        rw [q'] at e
        have := P.inj (hf.dom q).2 (hf'.dom q').2 (Option.some.inj e)
        rw [this]
  · rw [hf.none_of (by omega), hf'.none_of (by omega)]
theorem Ren.some_iff (P : Pm n p) (hf : PI n f) (r : Ren n p f g) {x y : Nat} (hx : x < n) (hy : y < n) : g (p x) = some (p y) ↔ f x = some y := by
  rw [r x hx]
  constructor
  · intro e
    obtain ⟨z, e1, e2⟩ := Option.map_eq_some_iff.mp e
    rw [e1, P.inj (hf.dom e1).2 hy e2]
  · intro e; rw [e]; rfl
theorem Ren.mul (hf : PI n f) (r : Ren n p f f') (r' : Ren n p g g') : Ren n p (mulF f g) (mulF f' g') := fun x hx => by
  unfold mulF
  rw [r x hx]
  cases e : f x with
  | none => rfl
  | some y => exact r' y (hf.dom e).2
theorem Ren.and (P : Pm n p) (hf : PI n f) (hg : PI n g) (r : Ren n p f f') (r' : Ren n p g g') : Ren n p (andF f g) (andF f' g') := fun x hx => by
  unfold andF
  rw [r x hx, r' x hx]
  by_cases h : f x = g x
  · rw [if_pos h, if_pos (by rw [h])]
  · rw [if_neg h, if_neg fun e => h ?_]
    · rfl
    · cases q : f x with
      | none => rw [q] at e; cases q' : g x with
        | none => rfl
        | some z => rw [q'] at e; cases e
      | some y => rw [q] at e; cases q' : g x with
        | none => rw [q'] at e; cases e
        | some z => rw [q'] at e; rw [P.inj (hf.dom q).2 (hg.dom q').2 (Option.some.inj e)]
theorem Ren.inv (P : Pm n p) (hf : PI n f) (hg : PI n g) (r : Ren n p f g) : Ren n p (invF n f) (invF n g) := fun y hy => by
  cases e : invF n f y with
  | some x =>
    have e1 := (invF_iff hf).mp e
    have hx := (hf.dom e1).1
    exact (invF_iff hg).mpr ((r.some_iff P hf hx hy).mpr e1)
  | none =>
    cases e' : invF n g (p y) with
    | none => rfl
    | some z =>
      have e1 := (invF_iff hg).mp e'
      obtain ⟨x, hx, rfl⟩ := P.surj (hg.dom e1).1
      have := (invF_iff hf).mpr ((r.some_iff P hf hx hy).mp e1)
      rw [this] at e; cases e
theorem Ren.it (hf : PI n f) (r : Ren n p f g) : ∀ (k x : Nat), x < n → CM.it g k (p x) = (CM.it f k x).map p
  | 0, x, hx => rfl
  | k + 1, x, hx => by
    show (g (p x)).bind (CM.it g k) = ((f x).bind (CM.it f k)).map p
    rw [r x hx]
    cases e : f x with
    | none => rfl
    | some y => exact Ren.it hf r k y (hf.dom e).2
theorem Ren.pow (hf : PI n f) (r : Ren n p f g) (k : Nat) : Ren n p (powF f k) (powF g k) := fun x hx => r.it hf k x hx
theorem Ren.id : Pm n p → Ren n p (idF n) (idF n) := fun P x hx => by
  unfold idF
  rw [if_pos (P.lt hx), if_pos hx]; rfl
theorem rowGo_ren (P : Pm n p) (hf : PI n f) (r : Ren n p f g) {x : Nat} (hx : x < n) : ∀ (k cur : Nat), cur < n → rowGo g (p x) k (p cur) = (rowGo f x k cur).map p
  | 0, cur, hc => rfl
  | k + 1, cur, hc => by
    unfold rowGo
    rw [r cur hc]
    cases e : f cur with
    | none => rfl
    | some y =>
      have hy := (hf.dom e).2
      simp only [Option.map_some]
      by_cases h : y = x
      · rw [if_pos (by rw [h]), if_pos h]; rfl
      · rw [if_neg fun z => h (P.inj hy hx z), if_neg h, List.map_cons, rowGo_ren P hf r hx k y hy]
theorem row_ren (P : Pm n p) (hf : PI n f) (r : Ren n p f g) {x : Nat} (hx : x < n) : row n g (p x) = (row n f x).map p := rowGo_ren P hf r hx n x hx
/-- the order of the elements, as a map -/
def pF (n : Nat) (p : Nat → Nat) : PF := fun x => if x < n then some (p x) else none
theorem pF_pi (P : Pm n p) : PI n (pF n p) where
  dom := fun {x y} e => by
    unfold pF at e
    by_cases h : x < n
    · rw [if_pos h] at e; cases e; exact ⟨h, P.lt h⟩
    · rw [if_neg h] at e; cases e
  inj := fun {x x' y} e e' => by
    unfold pF at e e'
    by_cases h : x < n
    · by_cases h' : x' < n
      · rw [if_pos h] at e; rw [if_pos h'] at e'; cases e; exact P.inj h h' (Option.some.inj e').symm
      · rw [if_neg h'] at e'; cases e'
    · rw [if_neg h] at e; cases e
/-- ~by * f * by -/
def rnF (n : Nat) (b f : PF) : PF := mulF (mulF (invF n b) f) b
theorem rnF_pi {b : PF} (hb : PI n b) (hf : PI n f) : PI n (rnF n b f) := mulF_pi (mulF_pi (invF_pi hb) hf) hb
theorem rnF_ren (P : Pm n p) (hf : PI n f) : Ren n p f (rnF n (pF n p) f) := fun x hx => by
  have hb := pF_pi P
  have e1 : invF n (pF n p) (p x) = some x := (invF_iff hb).mpr (by unfold pF; rw [if_pos hx])
  show ((invF n (pF n p) (p x)).bind f).bind (pF n p) = _
  rw [e1]
  show (f x).bind (pF n p) = _
  cases e : f x with
  | none => rfl
  | some y =>
    show pF n p y = some (p y)
    unfold pF
    rw [if_pos (hf.dom e).2]
theorem rnF_eq (P : Pm n p) (hf : PI n f) (hg : PI n g) (r : Ren n p f g) : rnF n (pF n p) f = g :=
  (rnF_ren P hf).uniq P (rnF_pi (pF_pi P) hf) hg r
end
end CM
end

section
set_option linter.all false
/-! M2: cycles and chains: they cover the elements once; their lengths stay under a renaming. -/
namespace CM
def chs (n : Nat) (f : PF) : List (List Nat) := ((List.range n).filter fun x => (invF n f x).isNone).map (row n f)
def cycGo (n : Nat) (f : PF) : List Nat → List Nat → List (List Nat)
  | [], _ => []
  | x :: xs, seen => if x ∈ seen then cycGo n f xs seen else row n f x :: cycGo n f xs (seen ++ row n f x)
def cys (n : Nat) (f : PF) : List (List Nat) := cycGo n f (List.range n) (chs n f).flatten
def Cyc (f : PF) (x : Nat) : Prop := ∃ k, 0 < k ∧ it f k x = some x
section
variable {n : Nat} {f : PF} {x y : Nat}
theorem cyc_row {r : List Nat} (r0 : RowOk n f x r) : Cyc f x ↔ it f r.length x = some x := by
  constructor
  · rintro ⟨k, hk, e⟩
    rcases r0.last with c | c
    · rw [r0.open_ c] at e
      have := nodup_get r0.nd e r0.head
      omega
    · exact c
  · intro e; exact ⟨_, r0.pos, e⟩
theorem reach_cyc (c : Cyc f x) {k : Nat} (e : it f k x = some y) : Cyc f y := by
  obtain ⟨L, hL, c⟩ := c
  refine ⟨L, hL, ?_⟩
  have h1 : it f (L + k) x = some y := by rw [it_add, c]; exact e
  rw [Nat.add_comm, it_add, e] at h1
  exact h1
theorem reach_back (c : Cyc f x) {k : Nat} (e : it f k x = some y) : ∃ m, it f m y = some x := by
  obtain ⟨L, hL, c⟩ := c
  have hk : k ≤ L * k := Nat.le_mul_of_pos_left k hL
  refine ⟨L * k - k, ?_⟩
  have h1 : it f (k + (L * k - k)) x = some x := by
    rw [show k + (L * k - k) = L * k from by omega]
    exact it_mul c k
  rw [it_add, e] at h1
  exact h1
theorem cyc_from (h : PI n f) {k : Nat} (e : it f k x = some y) (c : Cyc f y) : Cyc f x := by
  obtain ⟨L, hL, c⟩ := c
  refine ⟨L, hL, ?_⟩
  have h1 : it f (k + L) x = some y := by rw [it_add, e]; exact c
  rw [Nat.add_comm, it_add] at h1
  obtain ⟨z, e1, e2⟩ := Option.bind_eq_some_iff.mp h1
  rw [e1, it_inj h e2 e]
theorem cyc_pred (h : PI n f) (c : Cyc f x) : ∃ z, invF n f x = some z := by
  obtain ⟨L, hL, c⟩ := c
  obtain ⟨j, rfl⟩ : ∃ j, L = j + 1 := ⟨L - 1, by omega⟩
  rw [it_succ'] at c
  obtain ⟨z, _, e⟩ := Option.bind_eq_some_iff.mp c
  exact ⟨z, (invF_iff h).mpr e⟩
theorem it_inv (h : PI n f) : ∀ (k x y : Nat), it (invF n f) k x = some y ↔ it f k y = some x
  | 0, x, y => ⟨fun e => by cases e; rfl, fun e => by cases e; rfl⟩
  | k + 1, x, y => by
    constructor
    · intro e
      obtain ⟨z, e1, e2⟩ := Option.bind_eq_some_iff.mp (show (invF n f x).bind (it (invF n f) k) = some y from e)
      rw [it_succ', (it_inv h k z y).mp e2]
      exact (invF_iff h).mp e1
    · intro e
      rw [it_succ'] at e
      obtain ⟨z, e1, e2⟩ := Option.bind_eq_some_iff.mp e
      show (invF n f x).bind (it (invF n f) k) = some y
      rw [(invF_iff h).mpr e2]
      exact (it_inv h k z y).mpr e1
theorem start_of (h : PI n f) (hx : x < n) (c : ¬ Cyc f x) : ∃ s, s < n ∧ invF n f s = none ∧ ∃ k, it f k s = some x := by
  have r0 := row_ok (invF_pi h) hx
  obtain ⟨l, e1, e2⟩ := r0.last_some
  have e3 := r0.nth (( row n (invF n f) x).length - 1) (by have := r0.pos; omega)
  rw [e1] at e3
  have e4 := (it_inv h _ _ _).mp e3.symm
  refine ⟨l, r0.lt (invF_pi h) hx l (List.mem_iff_getElem?.mpr ⟨_, e1⟩), ?_, _, e4⟩
  rcases r0.last with q | q
  · rw [e2, q]
  · exact absurd ⟨_, r0.pos, (it_inv h _ _ _).mp q⟩ c
theorem mem_row (h : PI n f) (hx : x < n) : y ∈ row n f x ↔ ∃ k, it f k x = some y := (row_ok h hx).mem_iff
theorem flat_nodup {L : List (List Nat)} (h1 : ∀ l ∈ L, l.Nodup) (h2 : L.Pairwise fun a b => ∀ x ∈ a, ∀ y ∈ b, x ≠ y) : L.flatten.Nodup := List.pairwise_flatten.mpr ⟨h1, h2⟩
/-- the chains -/
theorem chs_mem {r : List Nat} (hr : r ∈ chs n f) : ∃ s, s < n ∧ invF n f s = none ∧ r = row n f s := by
  obtain ⟨s, hs, rfl⟩ := List.mem_map.mp hr
  obtain ⟨h1, h2⟩ := List.mem_filter.mp hs
  exact ⟨s, List.mem_range.mp h1, Option.isNone_iff_eq_none.mp h2, rfl⟩
theorem start_eq (h : PI n f) {s s' : Nat} (hs : invF n f s = none) {k k' : Nat} (e : it f k s = some y) (e' : it f k' s' = some y) (hk : k ≤ k') : s = s' := by
  obtain ⟨d, rfl⟩ : ∃ d, k' = d + k := ⟨k' - k, by omega⟩
  rw [it_add] at e'
  obtain ⟨z, e1, e2⟩ := Option.bind_eq_some_iff.mp e'
  have := it_inj h e2 e
  subst this
  cases d with
  | zero => exact (Option.some.inj e1).symm
  | succ d =>
    rw [it_succ'] at e1
    obtain ⟨w, _, e3⟩ := Option.bind_eq_some_iff.mp e1
    rw [(invF_iff h).mpr e3] at hs
    cases hs
theorem chs_nodup (h : PI n f) : (chs n f).flatten.Nodup := by
  refine flat_nodup (fun r hr => ?_) ?_
  · obtain ⟨s, hs, _, rfl⟩ := chs_mem hr
    exact (row_ok h hs).nd
  · unfold chs
    rw [List.pairwise_map]
    refine List.Pairwise.imp_of_mem (R := fun a b => a ≠ b) (fun {a b} ha hb hab x hx y hy => ?_) (nodup_filter List.nodup_range _)
    rintro rfl
    obtain ⟨ha1, ha2⟩ := List.mem_filter.mp ha
    obtain ⟨hb1, hb2⟩ := List.mem_filter.mp hb
    obtain ⟨k, e⟩ := (mem_row h (List.mem_range.mp ha1)).mp hx
    obtain ⟨k', e'⟩ := (mem_row h (List.mem_range.mp hb1)).mp hy
    rcases Nat.le_total k k' with q | q
    · exact hab (start_eq h (Option.isNone_iff_eq_none.mp ha2) e e' q)
    · exact hab (start_eq h (Option.isNone_iff_eq_none.mp hb2) e' e q).symm
theorem chs_flat (h : PI n f) : y ∈ (chs n f).flatten ↔ y < n ∧ ¬ Cyc f y := by
  constructor
  · intro hy
    obtain ⟨r, hr, hy⟩ := List.mem_flatten.mp hy
    obtain ⟨s, hs, h0, rfl⟩ := chs_mem hr
    refine ⟨(row_ok h hs).lt h hs y hy, fun c => ?_⟩
    obtain ⟨k, e⟩ := (mem_row h hs).mp hy
    obtain ⟨z, ez⟩ := cyc_pred h (cyc_from h e c)
    rw [h0] at ez; cases ez
  · rintro ⟨hy, c⟩
    obtain ⟨s, hs, h0, k, e⟩ := start_of h hy c
    refine List.mem_flatten.mpr ⟨row n f s, List.mem_map.mpr ⟨s, List.mem_filter.mpr ⟨List.mem_range.mpr hs, by rw [h0]; rfl⟩, rfl⟩, (mem_row h hs).mpr ⟨k, e⟩⟩
/-- the cycles, behind what is seen -/
theorem cycGo_spec (h : PI n f) : ∀ (xs S : List Nat), (∀ x ∈ xs, x < n) → (∀ y ∈ S, Cyc f y → ∀ k z, it f k y = some z → z ∈ S) → (∀ x, x < n → ¬ Cyc f x → x ∈ S) →
    (cycGo n f xs S).flatten.Nodup ∧ (∀ y ∈ (cycGo n f xs S).flatten, y ∉ S) ∧ (∀ r ∈ cycGo n f xs S, ∃ x, x < n ∧ Cyc f x ∧ r = row n f x) ∧ ∀ x ∈ xs, x ∈ S ∨ x ∈ (cycGo n f xs S).flatten
  | [], S, _, _, _ => ⟨by simp [cycGo], by simp [cycGo], by simp [cycGo], by simp⟩
  | x :: xs, S, hl, ha, hb => by
    have hx := hl x List.mem_cons_self
    unfold cycGo
    by_cases hm : x ∈ S
    · rw [if_pos hm]
      obtain ⟨c1, c2, c3, c4⟩ := cycGo_spec h xs S (fun z hz => hl z (List.mem_cons_of_mem _ hz)) ha hb
      refine ⟨c1, c2, c3, fun z hz => ?_⟩
      rcases List.mem_cons.mp hz with rfl | hz
      · exact .inl hm
      · exact c4 z hz
    · rw [if_neg hm]
      have c : Cyc f x := Classical.byContradiction fun c => hm (hb x hx c)
      have hrow : ∀ y, y ∈ row n f x → y ∉ S := fun y hy hS => by
        obtain ⟨k, e⟩ := (mem_row h hx).mp hy
        obtain ⟨m, e'⟩ := reach_back c e
        exact hm (ha y hS (reach_cyc c e) m x e')
      obtain ⟨c1, c2, c3, c4⟩ := cycGo_spec h xs (S ++ row n f x) (fun z hz => hl z (List.mem_cons_of_mem _ hz)) (fun y hy cy k z e => by
        rcases List.mem_append.mp hy with hy | hy
        · exact List.mem_append_left _ (ha y hy cy k z e)
        · obtain ⟨j, e'⟩ := (mem_row h hx).mp hy
          refine List.mem_append_right _ ((mem_row h hx).mpr ⟨j + k, ?_⟩)
          rw [it_add, e']; exact e) (fun z hz cz => List.mem_append_left _ (hb z hz cz))
      rw [List.flatten_cons]
      refine ⟨List.nodup_append.mpr ⟨(row_ok h hx).nd, c1, fun a ha b hb => ?_⟩, fun y hy => ?_, fun r hr => ?_, fun z hz => ?_⟩
      · rintro rfl
        exact c2 a hb (List.mem_append_right _ ha)
      · rcases List.mem_append.mp hy with hy | hy
        · exact hrow y hy
        · exact fun hS => c2 y hy (List.mem_append_left _ hS)
      · rcases List.mem_cons.mp hr with rfl | hr
        · exact ⟨x, hx, c, rfl⟩
        · exact c3 r hr
      · rcases List.mem_cons.mp hz with rfl | hz
        · exact .inr (List.mem_append_left _ ((mem_row h hx).mpr ⟨0, rfl⟩))
        · rcases c4 z hz with q | q
          · rcases List.mem_append.mp q with q | q
            · exact .inl q
            · exact .inr (List.mem_append_left _ q)
          · exact .inr (List.mem_append_right _ q)
theorem cys_spec (h : PI n f) : (cys n f).flatten.Nodup ∧ (∀ y ∈ (cys n f).flatten, y ∉ (chs n f).flatten) ∧ (∀ r ∈ cys n f, ∃ x, x < n ∧ Cyc f x ∧ r = row n f x) ∧ ∀ x ∈ List.range n, x ∈ (chs n f).flatten ∨ x ∈ (cys n f).flatten :=
  cycGo_spec h _ _ (fun x hx => List.mem_range.mp hx) (fun y hy c => absurd c ((chs_flat h).mp hy).2) fun x hx c => (chs_flat h).mpr ⟨hx, c⟩
theorem cys_flat (h : PI n f) : y ∈ (cys n f).flatten ↔ y < n ∧ Cyc f y := by
  obtain ⟨c1, c2, c3, c4⟩ := cys_spec h
  constructor
  · intro hy
    obtain ⟨r, hr, hy'⟩ := List.mem_flatten.mp hy
    obtain ⟨x, hx, c, rfl⟩ := c3 r hr
    obtain ⟨k, e⟩ := (mem_row h hx).mp hy'
    exact ⟨it_lt h hx e, reach_cyc c e⟩
  · rintro ⟨hy, c⟩
    rcases c4 y (List.mem_range.mpr hy) with q | q
    · exact absurd c ((chs_flat h).mp q).2
    · exact q
theorem parts_nodup (h : PI n f) : ((cys n f).flatten ++ (chs n f).flatten).Nodup := by
  obtain ⟨c1, c2, c3, c4⟩ := cys_spec h
  refine List.nodup_append.mpr ⟨c1, chs_nodup h, fun a ha b hb => ?_⟩
  rintro rfl
  exact c2 a ha hb
theorem parts_perm (h : PI n f) : ((cys n f).flatten ++ (chs n f).flatten).Perm (List.range n) := by
  refine (List.perm_ext_iff_of_nodup (parts_nodup h) List.nodup_range).2 fun a => ?_
  rw [List.mem_append, cys_flat h, chs_flat h, List.mem_range]
  constructor
  · rintro (q | q) <;> exact q.1
  · intro ha
    by_cases c : Cyc f a
    · exact .inl ⟨ha, c⟩
    · exact .inr ⟨ha, c⟩
theorem parts_sum (h : PI n f) : ((cys n f).map List.length).sum + ((chs n f).map List.length).sum = n := by
  have := (parts_perm h).length_eq
  rw [List.length_append, List.length_flatten, List.length_flatten, List.length_range] at this
  exact this
theorem cys_pos (h : PI n f) : ∀ L ∈ (cys n f).map List.length, 0 < L := fun L hL => by
  obtain ⟨r, hr, rfl⟩ := List.mem_map.mp hL
  obtain ⟨x, hx, c, rfl⟩ := (cys_spec h).2.2.1 r hr
  exact (row_ok h hx).pos
theorem chs_pos (h : PI n f) : ∀ L ∈ (chs n f).map List.length, 0 < L := fun L hL => by
  obtain ⟨r, hr, rfl⟩ := List.mem_map.mp hL
  obtain ⟨x, hx, c, rfl⟩ := chs_mem hr
  exact (row_ok h hx).pos
/-- in a cycle all rows are as long -/
theorem cyc_len (h : PI n f) (hx : x < n) (c : Cyc f x) (hy : y ∈ row n f x) : (row n f y).length = (row n f x).length := by
  obtain ⟨k, e⟩ := (mem_row h hx).mp hy
  have hyn := it_lt h hx e
  refine ((List.perm_ext_iff_of_nodup (row_ok h hyn).nd (row_ok h hx).nd).2 fun z => ?_).length_eq
  rw [mem_row h hyn, mem_row h hx]
  constructor
  · rintro ⟨m, e'⟩
    exact ⟨k + m, by rw [it_add, e]; exact e'⟩
  · rintro ⟨m, e'⟩
    obtain ⟨b, eb⟩ := reach_back c e
    exact ⟨b + m, by rw [it_add, eb]; exact e'⟩
/-- how many elements stand in cycles of a length -/
def cycB (n : Nat) (f : PF) (x : Nat) : Bool := (it f (row n f x).length x).isSome
theorem cycB_iff (h : PI n f) (hx : x < n) : cycB n f x = true ↔ Cyc f x := by
  have r0 := row_ok h hx
  rw [cyc_row r0]
  unfold cycB
  rcases r0.last with c | c
  · rw [c]; simp
  · rw [c]; simp
theorem sum_if (L : Nat) : ∀ ls : List Nat, (ls.map fun l => if l = L then l else 0).sum = L * ls.count L
  | [] => by simp
  | a :: ls => by
    rw [List.map_cons, List.sum_cons, sum_if L ls, List.count_cons]
    by_cases e : a = L
    · subst e
      simp [Nat.mul_add, Nat.add_comm]
    · simp [e]
theorem cys_count (h : PI n f) (L : Nat) : (List.range n).countP (fun x => cycB n f x && decide ((row n f x).length = L)) = L * ((cys n f).map List.length).count L := by
  obtain ⟨c1, c2, c3, c4⟩ := cys_spec h
  have p : (cys n f).flatten.Perm ((List.range n).filter (cycB n f)) := by
    refine (List.perm_ext_iff_of_nodup c1 (nodup_filter List.nodup_range _)).2 fun a => ?_
    rw [cys_flat h, List.mem_filter, List.mem_range]
    constructor
    · rintro ⟨h1, h2⟩; exact ⟨h1, (cycB_iff h h1).mpr h2⟩
    · rintro ⟨h1, h2⟩; exact ⟨h1, (cycB_iff h h1).mp h2⟩
  have e1 : (List.range n).countP (fun x => cycB n f x && decide ((row n f x).length = L)) = ((List.range n).filter (cycB n f)).countP (fun x => decide ((row n f x).length = L)) := by
    rw [List.countP_filter]
    refine List.countP_congr fun x _ => ?_
    rw [Bool.and_comm]
  rw [e1, ← p.countP_eq, List.countP_flatten, ← sum_if, List.map_map]
  congr 1
  refine List.map_congr_left fun r hr => ?_
  obtain ⟨x, hx, c, rfl⟩ := c3 r hr
  show (row n f x).countP _ = if (row n f x).length = L then (row n f x).length else 0
  by_cases e : (row n f x).length = L
  · rw [if_pos e]
    exact List.countP_eq_length.mpr fun y hy => decide_eq_true ((cyc_len h hx c hy).trans e)
  · rw [if_neg e]
    exact List.countP_eq_zero.mpr fun y hy => by
      rw [cyc_len h hx c hy]; simp [e]
end
/-! ### under a renaming -/
section
variable {n : Nat} {p : Nat → Nat} {f g : PF}
theorem chs_ren (P : Pm n p) (hf : PI n f) (hg : PI n g) (r : Ren n p f g) : ((chs n g).map List.length).Perm ((chs n f).map List.length) := by
  unfold chs
  rw [List.map_map, List.map_map]
  have q := ((P.perm.symm).filter fun x => (invF n g x).isNone).map (List.length ∘ row n g)
  refine q.trans (List.Perm.of_eq ?_)
  rw [List.filter_map, List.map_map]
  have e : (List.range n).filter ((fun x => (invF n g x).isNone) ∘ p) = (List.range n).filter fun x => (invF n f x).isNone := by
    refine List.filter_congr fun x hx => ?_
    show (invF n g (p x)).isNone = _
    rw [r.inv P hf hg x (List.mem_range.mp hx)]
    cases invF n f x <;> rfl
  rw [e]
  refine List.map_congr_left fun x hx => ?_
  have hx' := List.mem_range.mp (List.mem_filter.mp hx).1
  show (row n g (p x)).length = (row n f x).length
  rw [row_ren P hf r hx', List.length_map]
theorem cys_ren (P : Pm n p) (hf : PI n f) (hg : PI n g) (r : Ren n p f g) : ((cys n g).map List.length).Perm ((cys n f).map List.length) := by
  refine List.perm_iff_count.mpr fun L => ?_
  have e : (List.range n).countP (fun x => cycB n g x && decide ((row n g x).length = L)) = (List.range n).countP (fun x => cycB n f x && decide ((row n f x).length = L)) := by
    rw [← P.perm.countP_eq, List.countP_map]
    refine List.countP_congr fun x hx => ?_
    have hx' := List.mem_range.mp hx
    have e1 : (row n g (p x)).length = (row n f x).length := by rw [row_ren P hf r hx', List.length_map]
    have e2 : cycB n g (p x) = cycB n f x := by
      unfold cycB
      rw [e1, r.it hf _ _ hx']
      cases it f (row n f x).length x <;> rfl
    show (cycB n g (p x) && decide ((row n g (p x)).length = L)) = true ↔ _
    rw [e1, e2]
  rw [cys_count hf, cys_count hg] at e
  cases L with
  | zero =>
    rw [List.count_eq_zero.mpr fun h => absurd (cys_pos hg 0 h) (Nat.lt_irrefl _), List.count_eq_zero.mpr fun h => absurd (cys_pos hf 0 h) (Nat.lt_irrefl _)]
  | succ L => exact Nat.eq_of_mul_eq_mul_left (Nat.succ_pos _) e
end
end CM
end

section
set_option linter.all false
/-! M3: tables of pairs, as dicts hold them. Plain Lean. -/
namespace CM
section
variable {α β : Type}
theorem find_key {ps : List (Nat × β)} (nd : (ps.map (·.1)).Nodup) {x : Nat} {y : β} (h : (x, y) ∈ ps) : ps.find? (fun p => p.1 == x) = some (x, y) := by
  induction ps with
  | nil => cases h
  | cons p r ih =>
    obtain ⟨a, b⟩ := p
    rw [List.map_cons, List.nodup_cons] at nd
    rcases List.mem_cons.mp h with e | e
    · cases e; simp
    · have na : a ≠ x := fun z => nd.1 (z ▸ List.mem_map.mpr ⟨(x, y), e, rfl⟩)
      rw [List.find?_cons_of_neg (by simpa using na)]
      exact ih nd.2 e
theorem nodup_take {l : List α} (nd : l.Nodup) {i : Nat} {y : α} (h : l[i]? = some y) : y ∉ l.take i := fun hm => by
  obtain ⟨j, hj⟩ := List.mem_iff_getElem?.mp hm
  rw [List.getElem?_take] at hj
  split at hj
  · rename_i hlt
    have := nodup_get nd hj h
    omega
  · cases hj
def lk (ps : List (Nat × β)) (x : Nat) : Option β := (ps.find? fun p => p.1 == x).map (·.2)
theorem lk_some {ps : List (Nat × β)} {x : Nat} {y : β} (h : lk ps x = some y) : (x, y) ∈ ps := by
  unfold lk at h
  obtain ⟨p, hp, e⟩ := Option.map_eq_some_iff.mp h
  have h1 := List.find?_some hp
  have h2 := List.mem_of_find?_eq_some hp
  obtain ⟨a, b⟩ := p
  have : a = x := by simpa using h1
  subst this
  cases e
  exact h2
theorem lk_iff {ps : List (Nat × β)} (nd : (ps.map (·.1)).Nodup) {x : Nat} {y : β} : lk ps x = some y ↔ (x, y) ∈ ps :=
  ⟨lk_some, fun h => by unfold lk; rw [find_key nd h]; rfl⟩
theorem lk_none {ps : List (Nat × β)} {x : Nat} : lk ps x = none ↔ x ∉ ps.map (·.1) := by
  unfold lk
  rw [Option.map_eq_none_iff, List.find?_eq_none]
  constructor
  · intro h hm
    obtain ⟨p, hp, e⟩ := List.mem_map.mp hm
    exact h p hp (by simpa using e)
  · intro h p hp e
    exact h (List.mem_map.mpr ⟨p, hp, by simpa using e⟩)
theorem take_succ_fm (F : α → Option β) {l : List α} {i : Nat} {a : α} (h : l[i]? = some a) : (l.take (i + 1)).filterMap F = (l.take i).filterMap F ++ (F a).toList := by
  rw [List.take_succ, h, List.filterMap_append]
  show _ ++ List.filterMap F [a] = _
  cases e : F a <;> simp [e]
theorem take_succ_map (F : α → β) {l : List α} {i : Nat} {a : α} (h : l[i]? = some a) : (l.take (i + 1)).map F = (l.take i).map F ++ [F a] := by
  rw [List.take_succ, h, List.map_append]; rfl
theorem take_fm_key {F : α → Option (Nat × β)} {l : List α} (nd : ((l.filterMap F).map (·.1)).Nodup) {i : Nat} {a : α} {x : Nat} {y : β} (h : l[i]? = some a) (hF : F a = some (x, y)) : x ∉ ((l.take i).filterMap F).map (·.1) := by
  have hs : ((l.take (i + 1)).filterMap F).Sublist (l.filterMap F) := (List.take_sublist _ _).filterMap F
  have n1 := nd.sublist (hs.map (·.1))
  rw [take_succ_fm F h, hF, List.map_append] at n1
  have := (List.nodup_append.mp n1).2.2
  intro hm
  exact this x hm x (by simp) rfl
end
/-- the table ps says f -/
structure Rep (ps : List (Nat × Nat)) (f : PF) : Prop where
  nd : (ps.map (·.1)).Nodup
  mem : ∀ {x y}, (x, y) ∈ ps ↔ f x = some y
theorem Rep.lk {ps : List (Nat × Nat)} {f : PF} (r : Rep ps f) (x : Nat) : lk ps x = f x := by
  cases e : f x with
  | none =>
    rw [lk_none]
    intro hm
    obtain ⟨p, hp, e2⟩ := List.mem_map.mp hm
    obtain ⟨a, b⟩ := p
    cases e2
    rw [r.mem] at hp
    rw [hp] at e; cases e
  | some y => exact (lk_iff r.nd).mpr (r.mem.mpr e)
/-- the table in the order of its sources -/
def arr (n : Nat) (f : PF) : List (Nat × Nat) := (List.range n).filterMap fun x => (f x).map fun y => (x, y)
theorem arr_mem {n : Nat} {f : PF} {x y : Nat} : (x, y) ∈ arr n f ↔ x < n ∧ f x = some y := by
  unfold arr
  rw [List.mem_filterMap]
  constructor
  · rintro ⟨a, ha, e⟩
    obtain ⟨b, hb, e2⟩ := Option.map_eq_some_iff.mp e
    cases e2
    exact ⟨List.mem_range.mp ha, hb⟩
  · rintro ⟨h1, h2⟩
    exact ⟨x, List.mem_range.mpr h1, by rw [h2]; rfl⟩
theorem arr_keys (n : Nat) (f : PF) : (arr n f).map (·.1) = (List.range n).filter fun x => (f x).isSome := by
  unfold arr
  induction n with
  | zero => rfl
  | succ n ih =>
    rw [List.range_succ, List.filterMap_append, List.map_append, ih, List.filter_append]
    congr 1
    cases e : f n <;> simp [e]
theorem arr_nodup (n : Nat) (f : PF) : ((arr n f).map (·.1)).Nodup := by
  rw [arr_keys]; exact nodup_filter List.nodup_range _
theorem arr_len (n : Nat) (f : PF) : (arr n f).length ≤ n := by
  have h := congrArg List.length (arr_keys n f)
  rw [List.length_map] at h
  rw [h]
  refine Nat.le_trans (List.length_filter_le _ _) ?_
  rw [List.length_range]; exact Nat.le_refl _
theorem arr_succ (n : Nat) (f : PF) : arr (n + 1) f = arr n f ++ ((f n).map fun y => (n, y)).toList := by
  unfold arr
  rw [List.range_succ, List.filterMap_append]
  cases e : f n <;> simp [e]
theorem arr_rep {n : Nat} {f : PF} (h : PI n f) : Rep (arr n f) f := ⟨arr_nodup n f, fun {x y} => by
  rw [arr_mem]; exact ⟨fun z => z.2, fun z => ⟨(h.dom z).1, z⟩⟩⟩
theorem Rep.vals {n : Nat} {ps : List (Nat × Nat)} {f : PF} (r : Rep ps f) (h : PI n f) : (ps.map (·.2)).Nodup := by
  have ndp : ps.Nodup := by
    have := r.nd
    rw [List.Nodup, List.pairwise_map] at this
    exact this.imp fun hne e => hne (congrArg _ e)
  refine nodup_map_on ndp fun p hp q hq e => ?_
  obtain ⟨a, b⟩ := p
  obtain ⟨c, d⟩ := q
  dsimp only at e
  subst e
  have := h.inj (r.mem.mp hp) (r.mem.mp hq)
  rw [this]
theorem Rep.len {n : Nat} {ps : List (Nat × Nat)} {f : PF} (r : Rep ps f) (h : PI n f) : ps.length ≤ n := by
  have := pigeon r.nd fun x hx => by
    obtain ⟨p, hp, e⟩ := List.mem_map.mp hx
    obtain ⟨a, b⟩ := p
    cases e
    exact (h.dom (r.mem.mp hp)).1
  rwa [List.length_map] at this
theorem Rep.perm {ps qs : List (Nat × Nat)} {f : PF} (r : Rep ps f) (r' : Rep qs f) : ps.Perm qs := by
  have nd : ∀ {ps : List (Nat × Nat)}, (ps.map (·.1)).Nodup → ps.Nodup := fun h => by
    rw [List.Nodup, List.pairwise_map] at h
    exact h.imp fun hne e => hne (congrArg _ e)
  exact (List.perm_ext_iff_of_nodup (nd r.nd) (nd r'.nd)).2 fun ⟨x, y⟩ => by rw [r.mem, r'.mem]
/-! the tables that the maps' own operators make -/
section
variable {n : Nat} {f g : PF} {ps : List (Nat × Nat)}
theorem rep_inv (r : Rep ps f) (h : PI n f) : Rep (ps.filterMap fun p => some (p.2, p.1)) (invF n f) := by
  have e : (ps.filterMap fun p => some (p.2, p.1)) = ps.map fun p => (p.2, p.1) := congrFun List.filterMap_eq_map' ps
  rw [e]
  refine ⟨by rw [List.map_map]; exact r.vals h, fun {x y} => ?_⟩
  rw [invF_iff h, ← r.mem, List.mem_map]
  constructor
  · rintro ⟨⟨a, b⟩, hp, e⟩; cases e; exact hp
  · intro hp; exact ⟨(y, x), hp, rfl⟩
theorem fm_keys {α : Type} (k : α → Nat) (F : α → Option (Nat × Nat)) (hF : ∀ a p, F a = some p → p.1 = k a) : ∀ l : List α, ((l.filterMap F).map (·.1)).Sublist (l.map k)
  | [] => List.Sublist.refl _
  | a :: l => by
    cases e : F a with
    | none => rw [List.filterMap_cons_none e, List.map_cons]; exact (fm_keys k F hF l).cons _
    | some p => rw [List.filterMap_cons_some e, List.map_cons, List.map_cons, hF a p e]; exact (fm_keys k F hF l).cons_cons _
theorem rep_mul (r : Rep ps f) : Rep (ps.filterMap fun p => (g p.2).map fun z => (p.1, z)) (mulF f g) := by
  refine ⟨r.nd.sublist (fm_keys (·.1) _ (fun a p e => ?_) ps), fun {x y} => ?_⟩
  · obtain ⟨z, _, e⟩ := Option.map_eq_some_iff.mp e; rw [← e]
  · rw [List.mem_filterMap]
    unfold mulF
    constructor
    · rintro ⟨⟨a, b⟩, hp, e⟩
      obtain ⟨z, hz, e⟩ := Option.map_eq_some_iff.mp e
      cases e
      rw [r.mem.mp hp]; exact hz
    · intro e
      obtain ⟨b, hb, hy⟩ := Option.bind_eq_some_iff.mp e
      exact ⟨(x, b), r.mem.mpr hb, by simp [hy]⟩
theorem rep_and (r : Rep ps f) : Rep (ps.filterMap fun p => if g p.1 = some p.2 then some p else none) (andF f g) := by
  refine ⟨r.nd.sublist (fm_keys (·.1) _ (fun a p e => ?_) ps), fun {x y} => ?_⟩
  · split at e
    · cases e; rfl
    · cases e
  · rw [List.mem_filterMap, andF_iff]
    constructor
    · rintro ⟨⟨a, b⟩, hp, e⟩
      split at e
      · rename_i hg
        cases e
        exact ⟨r.mem.mp hp, hg⟩
      · cases e
    · rintro ⟨h1, h2⟩
      exact ⟨(x, y), r.mem.mpr h1, by simp [h2]⟩
/-- f is part of g -/
def leF (n : Nat) (f g : PF) : Bool := (arr n f).all fun p => decide (g p.1 = some p.2)
theorem leF_iff (h : PI n f) : leF n f g = true ↔ ∀ x y, f x = some y → g x = some y := by
  unfold leF
  rw [List.all_eq_true]
  constructor
  · intro h1 x y e
    simpa using h1 (x, y) (arr_mem.mpr ⟨(h.dom e).1, e⟩)
  · rintro h1 ⟨x, y⟩ hp
    simpa using h1 x y (arr_mem.mp hp).2
/-- how == of two tables answers -/
theorem arr_eq_iff (hf : PI n f) (hg : PI n g) : arr n f = arr n g ↔ f = g := by
  constructor
  · intro e
    funext x
    rw [← (arr_rep hf).lk x, e, (arr_rep hg).lk x]
  · intro e; rw [e]
def eqF (n : Nat) (f g : PF) : Bool := decide ((arr n f).length = (arr n g).length) && (arr n f).all fun p => decide (g p.1 = some p.2)
theorem eqF_iff (hf : PI n f) (hg : PI n g) : eqF n f g = true ↔ f = g := by
  unfold eqF
  constructor
  · intro h
    rw [Bool.and_eq_true] at h
    obtain ⟨hl, hh⟩ := h
    have hl : (arr n f).length = (arr n g).length := by simpa using hl
    have sub := (leF_iff (g := g) hf).mp hh
    have nda : ∀ h : PF, (arr n h).Nodup := fun h => by
      have := arr_nodup n h
      rw [List.Nodup, List.pairwise_map] at this
      exact this.imp fun hne e => hne (congrArg _ e)
    have p1 : (arr n f).Perm ((arr n g).filter fun q => decide (q ∈ arr n f)) := by
      refine (List.perm_ext_iff_of_nodup (nda f) (nodup_filter (nda g) _)).2 fun ⟨x, y⟩ => ?_
      rw [List.mem_filter]
      refine ⟨fun hp => ⟨?_, by simpa using hp⟩, fun hp => by simpa using hp.2⟩
      have := arr_mem.mp hp
      exact arr_mem.mpr ⟨this.1, sub x y this.2⟩
    have p2 : ((arr n g).filter fun q => decide (q ∈ arr n f)) = arr n g := List.Sublist.eq_of_length List.filter_sublist (by rw [← p1.length_eq, hl])
    have p : (arr n f).Perm (arr n g) := by rw [p2] at p1; exact p1
    funext x
    cases ef : f x with
    | some y => exact (sub x y ef).symm
    | none =>
      cases eg : g x with
      | none => rfl
      | some y =>
        have := p.mem_iff.mpr (arr_mem.mpr ⟨(hg.dom eg).1, eg⟩)
        rw [(arr_mem.mp this).2] at ef; cases ef
  · intro e
    subst e
    have : ((arr n f).all fun p => decide (f p.1 = some p.2)) = true := (leF_iff hf).mpr fun _ _ h => h
    simp [this]
end
end CM
namespace CM
section
variable {β γ : Type}
/-- a store -/
def ptb (ps : List (Nat × β)) (x : Nat) (v : β) : List (Nat × β) := if x ∈ ps.map (·.1) then ps.map (fun p => if p.1 = x then (p.1, v) else p) else ps ++ [(x, v)]
theorem ptb_keys (ps : List (Nat × β)) (x : Nat) (v : β) : (ptb ps x v).map (·.1) = if x ∈ ps.map (·.1) then ps.map (·.1) else ps.map (·.1) ++ [x] := by
  unfold ptb
  by_cases h : x ∈ ps.map (·.1)
  · rw [if_pos h, if_pos h, List.map_map]
    refine List.map_congr_left fun p _ => ?_
    show (if p.1 = x then (p.1, v) else p).1 = p.1
    split <;> rfl
  · rw [if_neg h, if_neg h, List.map_append]; rfl
theorem ptb_nd {ps : List (Nat × β)} (x : Nat) (v : β) (nd : (ps.map (·.1)).Nodup) : ((ptb ps x v).map (·.1)).Nodup := by
  rw [ptb_keys]
  by_cases h : x ∈ ps.map (·.1)
  · rw [if_pos h]; exact nd
  · rw [if_neg h, List.nodup_append]
    refine ⟨nd, by simp, fun a ha b hb => ?_⟩
    have : b = x := by simpa using hb
    subst this
    rintro rfl
    exact h ha
theorem ptb_key {ps : List (Nat × β)} {x z : Nat} {v : β} : z ∈ (ptb ps x v).map (·.1) ↔ z = x ∨ z ∈ ps.map (·.1) := by
  rw [ptb_keys]
  by_cases h : x ∈ ps.map (·.1)
  · rw [if_pos h]
    exact ⟨.inr, fun e => e.elim (fun e => e ▸ h) id⟩
  · rw [if_neg h, List.mem_append]
    simp only [List.mem_singleton]
    exact Or.comm
theorem lk_cons (p : Nat × β) (ps : List (Nat × β)) (z : Nat) : lk (p :: ps) z = if p.1 = z then some p.2 else lk ps z := by
  unfold lk
  by_cases h : p.1 = z
  · rw [List.find?_cons_of_pos (by simpa using h), if_pos h]; rfl
  · rw [List.find?_cons_of_neg (by simpa using h), if_neg h]
theorem lk_append (ps qs : List (Nat × β)) (z : Nat) : lk (ps ++ qs) z = (lk ps z).or (lk qs z) := by
  induction ps with
  | nil => rfl
  | cons p ps ih =>
    rw [List.cons_append, lk_cons, lk_cons, ih]
    split <;> simp
theorem lk_ptb (ps : List (Nat × β)) (x z : Nat) (v : β) : lk (ptb ps x v) z = if z = x then some v else lk ps z := by
  unfold ptb
  by_cases h : x ∈ ps.map (·.1)
  · rw [if_pos h]
    by_cases e : z = x
    · subst e
      rw [if_pos rfl]

      induction ps with
      | nil => cases h
      | cons p ps ih =>
        rw [List.map_cons, lk_cons]
        by_cases hp : p.1 = z
        · rw [if_pos hp, if_pos hp]
        · rw [if_neg hp, if_neg hp]
          refine ih ?_
          rcases List.mem_cons.mp h with e | e
          · exact absurd e.symm hp
          · exact e
    · rw [if_neg e]
      clear h
      induction ps with
      | nil => rfl
      | cons p ps ih =>
        rw [List.map_cons, lk_cons, lk_cons, ih]
        by_cases hp : p.1 = x
        · have hz : ¬ p.1 = z := fun q => e (q.symm.trans hp)
          rw [if_pos hp, if_neg hz]
          first | done | exact (if_neg hz).symm
        · rw [if_neg hp]
  · rw [if_neg h, lk_append, lk_cons]
    by_cases e : z = x
    · subst e
      rw [lk_none.mpr h]; simp
    · rw [if_neg e, if_neg fun q => e q.symm]
      show (lk ps z).or none = _
      simp
theorem ptb_map (g : β → γ) (ps : List (Nat × β)) (x : Nat) (v : β) : (ptb ps x v).map (fun p => (p.1, g p.2)) = ptb (ps.map fun p => (p.1, g p.2)) x (g v) := by
  unfold ptb
  have hk : (ps.map fun p => (p.1, g p.2)).map (·.1) = ps.map (·.1) := by rw [List.map_map]; rfl
  rw [hk]
  by_cases h : x ∈ ps.map (·.1)
  · rw [if_pos h, if_pos h, List.map_map, List.map_map]
    refine List.map_congr_left fun p _ => ?_
    show ((if p.1 = x then (p.1, v) else p).1, g (if p.1 = x then (p.1, v) else p).2) = if p.1 = x then (p.1, g v) else (p.1, g p.2)
    split <;> rfl
  · rw [if_neg h, if_neg h, List.map_append]; rfl
/-- one more in a list without repeats -/
def insn (xs : List Nat) (x : Nat) : List Nat := if x ∈ xs then xs else xs ++ [x]
theorem mem_insn {xs : List Nat} {x z : Nat} : z ∈ insn xs x ↔ z = x ∨ z ∈ xs := by
  unfold insn
  by_cases h : x ∈ xs
  · rw [if_pos h]; exact ⟨.inr, fun e => e.elim (fun e => e ▸ h) id⟩
  · rw [if_neg h, List.mem_append]
    simp only [List.mem_singleton]
    exact Or.comm
theorem nd_insn {xs : List Nat} (x : Nat) (nd : xs.Nodup) : (insn xs x).Nodup := by
  unfold insn
  by_cases h : x ∈ xs
  · rw [if_pos h]; exact nd
  · rw [if_neg h, List.nodup_append]
    refine ⟨nd, by simp, fun a ha b hb => ?_⟩
    have : b = x := by simpa using hb
    subst this
    rintro rfl
    exact h ha
theorem ptb_const (c : β) (xs : List Nat) (x : Nat) : ptb (xs.map fun y => (y, c)) x c = (insn xs x).map fun y => (y, c) := by
  unfold ptb insn
  have hk : (xs.map fun y => (y, c)).map (·.1) = xs := by rw [List.map_map]; exact List.map_id xs
  rw [hk]
  by_cases h : x ∈ xs
  · rw [if_pos h, if_pos h, List.map_map]
    refine List.map_congr_left fun p _ => ?_
    show (if p = x then (p, c) else (p, c)) = (p, c)
    split <;> rfl
  · rw [if_neg h, if_neg h, List.map_append]; rfl
end
end CM
namespace CM
/-- moved: what the two tables say of what was seen -/
structure Mv (n : Nat) (f : PF) (k : Nat) (S : List Nat) (F : List (Nat × Nat)) : Prop where
  sn : S.Nodup
  sl : ∀ z ∈ S, z < n
  fn : (F.map (·.1)).Nodup
  fs : ∀ z ∈ F.map (·.1), z ∈ S
  lks : ∀ z, lk F z = if z ∈ S then powF f k z else none
theorem Mv.nil (n : Nat) (f : PF) (k : Nat) : Mv n f k [] [] := ⟨List.nodup_nil, fun _ h => (by cases h), List.nodup_nil, fun _ h => (by cases h), fun _ => rfl⟩
section
variable {n : Nat} {f : PF} {k : Nat} {S : List Nat} {F : List (Nat × Nat)}
theorem Mv.hit (m : Mv n f k S F) {e y : Nat} (he : e < n) (h : powF f k e = some y) : Mv n f k (insn S e) (ptb F e y) :=
  ⟨nd_insn e m.sn, fun z hz => (mem_insn.mp hz).elim (fun q => q ▸ he) (m.sl z), ptb_nd e y m.fn, fun z hz => mem_insn.mpr ((ptb_key.mp hz).imp id (m.fs z)), fun z => by
    rw [lk_ptb, m.lks]
    by_cases hz : z = e
    · subst hz; rw [if_pos rfl, if_pos (mem_insn.mpr (.inl rfl)), h]
    · rw [if_neg hz]
      by_cases hs : z ∈ S
      · rw [if_pos hs, if_pos (mem_insn.mpr (.inr hs))]
      · rw [if_neg hs, if_neg fun q => (mem_insn.mp q).elim hz hs]⟩
theorem Mv.miss (m : Mv n f k S F) {e : Nat} (he : e < n) (h : powF f k e = none) : Mv n f k (insn S e) F :=
  ⟨nd_insn e m.sn, fun z hz => (mem_insn.mp hz).elim (fun q => q ▸ he) (m.sl z), m.fn, fun z hz => mem_insn.mpr (.inr (m.fs z hz)), fun z => by
    rw [m.lks]
    by_cases hz : z = e
    · subst hz; rw [if_pos (mem_insn.mpr (.inl rfl)), h]; split <;> rfl
    · by_cases hs : z ∈ S
      · rw [if_pos hs, if_pos (mem_insn.mpr (.inr hs))]
      · rw [if_neg hs, if_neg fun q => (mem_insn.mp q).elim hz hs]⟩
theorem Mv.len (m : Mv n f k S F) : S.length ≤ n ∧ F.length ≤ n := by
  refine ⟨pigeon m.sn m.sl, ?_⟩
  have := pigeon m.fn fun z hz => m.sl z (m.fs z hz)
  rwa [List.length_map] at this
theorem Mv.rep (m : Mv n f k S F) (hk : 0 < k) (all : ∀ x y, f x = some y → x ∈ S) : Rep F (powF f k) := by
  refine ⟨m.fn, fun {x y} => ?_⟩
  rw [← lk_iff m.fn, m.lks]
  constructor
  · intro h; split at h
    · exact h
    · cases h
  · intro h
    have : x ∈ S := by
      unfold powF at h
      obtain ⟨j, rfl⟩ : ∃ j, k = j + 1 := ⟨k - 1, by omega⟩
      cases e : f x with
      | none => simp [it, e] at h
      | some y => exact all x y e
    rw [if_pos this]; exact h
end
end CM
namespace CM
theorem ptb_len {β : Type} (ps : List (Nat × β)) (x : Nat) (v : β) : (ptb ps x v).length ≤ ps.length + 1 := by
  unfold ptb
  split
  · rw [List.length_map]; omega
  · rw [List.length_append]; exact Nat.le_refl _
end CM
end

section
set_option linter.all false
/-! M4: factorials, counts of lengths, tables in rising order. Plain Lean. -/
namespace CM
def fac : Nat → Nat
  | 0 => 1
  | n + 1 => fac n * (n + 1)
theorem fac_pos : ∀ n, 0 < fac n
  | 0 => Nat.one_pos
  | n + 1 => Nat.mul_pos (fac_pos n) (Nat.succ_pos n)
theorem foldl_insn : ∀ (r S : List Nat), S.Nodup → (r.foldl insn S).Nodup ∧ ∀ z, z ∈ r.foldl insn S ↔ z ∈ S ∨ z ∈ r
  | [], S, h => ⟨h, fun z => by simp⟩
  | a :: r, S, h => by
    obtain ⟨h1, h2⟩ := foldl_insn r (insn S a) (nd_insn a h)
    refine ⟨h1, fun z => ?_⟩
    rw [List.foldl_cons, h2, mem_insn, List.mem_cons]
    constructor
    · rintro ((h | h) | h)
      · exact .inr (.inl h)
      · exact .inl h
      · exact .inr (.inr h)
    · rintro (h | h | h)
      · exact .inl (.inr h)
      · exact .inl (.inl h)
      · exact .inr h
theorem cycGo_congr (n : Nat) (f : PF) : ∀ (xs S S' : List Nat), (∀ z, z ∈ S ↔ z ∈ S') → cycGo n f xs S = cycGo n f xs S'
  | [], _, _, _ => rfl
  | x :: xs, S, S', h => by
    unfold cycGo
    by_cases hx : x ∈ S
    · rw [if_pos hx, if_pos ((h x).mp hx)]; exact cycGo_congr n f xs S S' h
    · rw [if_neg hx, if_neg fun q => hx ((h x).mpr q)]
      rw [cycGo_congr n f xs (S ++ row n f x) (S' ++ row n f x) fun z => by rw [List.mem_append, List.mem_append, h]]
/-- how often each length is there -/
def cf (ls : List Nat) : PF := fun L => if ls.count L = 0 then none else some (ls.count L)
theorem cf_some {ls : List Nat} {L c : Nat} : cf ls L = some c ↔ c = ls.count L ∧ c ≠ 0 := by
  unfold cf
  split
  · rename_i h
    constructor
    · intro z; cases z
    · rintro ⟨rfl, h2⟩; exact absurd h h2
  · rename_i h
    constructor
    · intro z; cases z; exact ⟨rfl, h⟩
    · rintro ⟨rfl, _⟩; rfl
theorem cf_mem {ls : List Nat} {L : Nat} : (cf ls L).isSome = decide (L ∈ ls) := by
  unfold cf
  by_cases h : L ∈ ls
  · have := List.count_pos_iff.mpr h
    rw [if_neg (by omega), decide_eq_true h]; rfl
  · rw [if_pos (List.count_eq_zero.mpr h), decide_eq_false h]; rfl
theorem cf_perm {ls ks : List Nat} (p : ls.Perm ks) : cf ls = cf ks := by
  funext L
  unfold cf
  rw [p.count_eq]
theorem arr_repD {n : Nat} {g : PF} (h : ∀ x y, g x = some y → x < n) : Rep (arr n g) g := ⟨arr_nodup n g, fun {x y} => by
  rw [arr_mem]; exact ⟨fun z => z.2, fun z => ⟨h x y z, z⟩⟩⟩
theorem cf_dom {ls : List Nat} {n : Nat} (h : ∀ L ∈ ls, L < n) : ∀ x y, cf ls x = some y → x < n := fun x y e => by
  have := (cf_some.mp e)
  exact h x (List.count_pos_iff.mp (by omega))
theorem eqF_refl (n : Nat) (f : PF) : eqF n f f = true := by
  unfold eqF
  have : ((arr n f).all fun p => decide (f p.1 = some p.2)) = true := by
    rw [List.all_eq_true]
    rintro ⟨x, y⟩ hp
    simpa using (arr_mem.mp hp).2
  simp [this]
/-- keys in rising order are the table's own -/
theorem sorted_keys {n : Nat} {g : PF} {qs : List Nat} (hp : qs.Perm ((arr n g).map (·.1))) (hs : qs.Pairwise (· ≤ ·)) : qs = (arr n g).map (·.1) := by
  refine List.Perm.eq_of_pairwise (le := (· ≤ ·)) (fun a b _ _ h1 h2 => Nat.le_antisymm h1 h2) hs ?_ hp
  rw [arr_keys]
  exact (List.Pairwise.sublist List.filter_sublist List.pairwise_lt_range).imp fun h => Nat.le_of_lt h
theorem arr_of_keys (n : Nat) (g : PF) : ((arr n g).map (·.1)).filterMap (fun x => (g x).map fun y => (x, y)) = arr n g := by
  rw [arr_keys]
  unfold arr
  rw [List.filterMap_filter]
  congr 1
  funext x
  cases e : g x <;> simp
/-- one more length -/
theorem cf_step {ps : List (Nat × Nat)} {ls : List Nat} (r : Rep ps (cf ls)) (L : Nat) : Rep (ptb ps L (ls.count L + 1)) (cf (ls ++ [L])) := by
  have nd := ptb_nd L (ls.count L + 1) r.nd
  refine ⟨nd, fun {x y} => ?_⟩
  rw [← lk_iff nd, lk_ptb, r.lk]
  have hc : (ls ++ [L]).count x = ls.count x + if L = x then 1 else 0 := by
    rw [List.count_append, List.count_singleton]
    simp only [beq_iff_eq]
  by_cases h : x = L
  · subst h
    rw [if_pos rfl]
    have : cf (ls ++ [x]) x = some (ls.count x + 1) := by
      unfold cf
      rw [hc, if_pos rfl, if_neg (by omega)]
    rw [this]
  · rw [if_neg h]
    have : cf (ls ++ [L]) x = cf ls x := by
      have hc' : (ls ++ [L]).count x = ls.count x := by rw [hc, if_neg (show ¬ L = x from fun q => h q.symm), Nat.add_zero]
      unfold cf
      rw [hc']
    rw [this]
theorem cf_nil : Rep [] (cf []) := ⟨List.nodup_nil, fun {x y} => by
  constructor
  · intro h; cases h
  · intro h; have := cf_some.mp h; simp at this⟩
theorem count_getD (ls : List Nat) (L : Nat) : (cf ls L).getD 0 = ls.count L := by
  unfold cf
  split
  · rename_i h; rw [h]; rfl
  · rfl
theorem mul_count_le (L : Nat) : ∀ ls : List Nat, L * ls.count L ≤ ls.sum
  | [] => by simp
  | a :: ls => by
    have ih := mul_count_le L ls
    rw [List.count_cons, List.sum_cons]
    by_cases h : a = L
    · subst h
      simp only [beq_self_eq_true, if_true]
      rw [Nat.mul_add]; omega
    · rw [if_neg (by simpa using h), Nat.add_zero]
      omega
theorem vals_inv {n : Nat} {f : PF} (h : PI n f) {x : Nat} : decide (x ∈ (arr n f).map (·.2)) = (invF n f x).isSome := by
  by_cases e : x ∈ (arr n f).map (·.2)
  · rw [decide_eq_true e]
    obtain ⟨⟨a, b⟩, hp, e2⟩ := List.mem_map.mp e
    cases e2
    rw [(invF_iff h).mpr (arr_mem.mp hp).2]; rfl
  · rw [decide_eq_false e]
    cases q : invF n f x with
    | none => rfl
    | some y =>
      have := (invF_iff h).mp q
      exact absurd (List.mem_map.mpr ⟨(y, x), arr_mem.mpr ⟨(h.dom this).1, this⟩, rfl⟩) e
theorem range_filter_succ (p : Nat → Bool) (i : Nat) : (List.range (i + 1)).filter p = (List.range i).filter p ++ if p i = true then [i] else [] := by
  rw [List.range_succ, List.filter_append]
  congr 1
  cases e : p i <;> simp [e]
theorem range_drop {n i : Nat} (h : i < n) : (List.range n).drop i = i :: (List.range n).drop (i + 1) := by
  rw [List.drop_eq_getElem_cons (by rw [List.length_range]; exact h)]
  congr 1
  rw [List.getElem_range]
end CM
namespace CM
/-- what a shape keeps of the lengths: cycles' ls, chains' ks -/
structure Sh (ls ks : List Nat) : Prop where
  lp : ∀ L ∈ ls, 0 < L
  kp : ∀ L ∈ ks, 0 < L
  sum : ls.sum + ks.sum ≤ 12
theorem mem_le_sum {L : Nat} : ∀ {ls : List Nat}, L ∈ ls → L ≤ ls.sum
  | a :: ls, h => by
    rw [List.sum_cons]
    rcases List.mem_cons.mp h with e | e
    · omega
    · have := mem_le_sum e; omega
theorem Sh.lt {ls ks : List Nat} (s : Sh ls ks) : (∀ L ∈ ls, L < 13) ∧ ∀ L ∈ ks, L < 13 := by
  have := s.sum
  exact ⟨fun L h => by have := mem_le_sum h; omega, fun L h => by have := mem_le_sum h; omega⟩
theorem length_le_sum : ∀ {ls : List Nat}, (∀ L ∈ ls, 0 < L) → ls.length ≤ ls.sum
  | [], _ => Nat.le_refl _
  | a :: ls, h => by
    have := length_le_sum (ls := ls) fun L hL => h L (List.mem_cons_of_mem _ hL)
    have := h a List.mem_cons_self
    rw [List.sum_cons, List.length_cons]; omega
theorem Sh.of {n : Nat} {f : PF} (h : PI n f) (hn : n ≤ 12) : Sh ((cys n f).map List.length) ((chs n f).map List.length) :=
  ⟨cys_pos h, chs_pos h, by rw [parts_sum h]; exact hn⟩
/-- the table of a shape's lengths: what stands in it -/
theorem tab_mem {ls : List Nat} {L c : Nat} (h : (L, c) ∈ arr 13 (cf ls)) : c = ls.count L ∧ c ≠ 0 ∧ L ∈ ls := by
  have := cf_some.mp (arr_mem.mp h).2
  exact ⟨this.1, this.2, List.count_pos_iff.mp (by omega)⟩
end CM

namespace CM
theorem nodup_sub {α : Type} [DecidableEq α] : ∀ {l : List α} {m : List α}, l.Nodup → (∀ x ∈ l, x ∈ m) → l.length ≤ m.length
  | [], _, _, _ => Nat.zero_le _
  | a :: l, m, nd, h => by
    rw [List.nodup_cons] at nd
    have hm := h a List.mem_cons_self
    have ih := nodup_sub (l := l) (m := m.erase a) nd.2 fun x hx => by
      have hne : x ≠ a := fun e => nd.1 (e ▸ hx)
      exact (List.mem_erase_of_ne hne).mpr (h x (List.mem_cons_of_mem _ hx))
    have := List.length_erase_of_mem hm
    have := List.length_pos_of_mem hm
    rw [List.length_cons]
    omega
end CM
namespace CM
def chN (s : Nat) : Nat → Nat
  | 0 => 1
  | t + 1 => chN s t * (s - t) / (t + 1)
theorem chN_small : ∀ s, s ≤ 12 → ∀ t, t ≤ 12 → chN s t < 2 ^ 30 := by decide +kernel
/-- what is left of d without L's factors -/
def rsz : Nat → Nat → Nat → Nat
  | 0, _, r => r
  | k + 1, L, r => if 1 < Nat.gcd r L then rsz k L (r / Nat.gcd r L) else r
def gsz (L d : Nat) : Nat := d / rsz 13 L d
def lcmL (ns : List Nat) : Nat := ns.foldl (fun a b => a / Nat.gcd a b * b) 1
/-- fate -/
def fateO (n : Nat) (f : PF) (x : Nat) : Option Nat := if (it f (row n f x).length x).isSome then none else some ((row n f x).length - 1)
/-- extensions to five arrows -/
def cext (n m : Nat) : Nat := if m ≤ 5 ∧ 5 - m ≤ n - m then chN (n - m) (5 - m) * chN (n - m) (5 - m) * fac (5 - m) else 0
end CM
end

section
set_option linter.all false
/-! M5: steps (swap two targets, forget a source): what they do; the steps from one map to another. Plain Lean. -/
namespace CM
inductive Stp where
  | sw (a b : Nat)
  | fg (a : Nat)
deriving DecidableEq
def swp (a b y : Nat) : Nat := if y = a then b else if y = b then a else y
def appS : Stp → PF → PF
  | .sw a b, F => fun x => (F x).map (swp a b)
  | .fg a, F => fun x => if x = a then none else F x
def appL (ss : List Stp) (F : PF) : PF := ss.foldl (fun F s => appS s F) F
/-- a step that may be taken -/
def Stp.ok (n : Nat) : Stp → Prop
  | .sw a b => a < n ∧ b < n ∧ a ≠ b
  | .fg a => a < n
def Stp.ren (p : Nat → Nat) : Stp → Stp
  | .sw a b => .sw (p a) (p b)
  | .fg a => .fg (p a)
theorem swp_lt {n a b y : Nat} (ha : a < n) (hb : b < n) (hy : y < n) : swp a b y < n := by
  unfold swp; split
  · exact hb
  · split
    · exact ha
    · exact hy
theorem swp_swp (a b y : Nat) : swp a b (swp a b y) = y := by
  unfold swp
  by_cases h1 : y = a
  · subst h1
    rw [if_pos rfl]
    by_cases h2 : b = y
    · rw [if_pos h2, h2]
    · rw [if_neg h2, if_pos rfl]
  · rw [if_neg h1]
    by_cases h2 : y = b
    · rw [if_pos h2, if_pos rfl, h2]
    · rw [if_neg h2, if_neg h1, if_neg h2]
theorem swp_inj {a b y z : Nat} (h : swp a b y = swp a b z) : y = z := by
  have := congrArg (swp a b) h
  rwa [swp_swp, swp_swp] at this
theorem swp_comm (a b y : Nat) : swp a b y = swp b a y := by
  unfold swp
  by_cases h1 : y = a
  · by_cases h2 : y = b
    · rw [if_pos h1, if_pos h2, ← h1, h2]
    · rw [if_pos h1, if_neg h2, if_pos h1]
  · rw [if_neg h1]
    by_cases h2 : y = b
    · rw [if_pos h2, if_pos h2]
    · rw [if_neg h2, if_neg h2, if_neg h1]
theorem appS_pi {n : Nat} {F : PF} (h : PI n F) {s : Stp} (o : s.ok n) : PI n (appS s F) := by
  cases s with
  | sw a b =>
    obtain ⟨ha, hb, _⟩ := o
    refine ⟨fun {x y} e => ?_, fun {x x' y} e e' => ?_⟩
    · obtain ⟨z, hz, rfl⟩ := Option.map_eq_some_iff.mp e
      exact ⟨(h.dom hz).1, swp_lt ha hb (h.dom hz).2⟩
    · obtain ⟨z, hz, rfl⟩ := Option.map_eq_some_iff.mp e
      obtain ⟨z', hz', e2⟩ := Option.map_eq_some_iff.mp e'
      have := swp_inj e2
      subst this
      exact h.inj hz hz'
  | fg a =>
    refine ⟨fun {x y} e => ?_, fun {x x' y} e e' => ?_⟩
    · have e : (if x = a then none else F x) = some y := e
      split at e
      · cases e
      · exact h.dom e
    · have e : (if x = a then none else F x) = some y := e
      have e' : (if x' = a then none else F x') = some y := e'
      split at e
      · cases e
      · split at e'
        · cases e'
        · exact h.inj e e'
theorem appL_pi {n : Nat} : ∀ {ss : List Stp} {F : PF}, PI n F → (∀ s ∈ ss, s.ok n) → PI n (appL ss F)
  | [], _, h, _ => h
  | s :: ss, F, h, o => appL_pi (ss := ss) (appS_pi h (o s List.mem_cons_self)) fun t ht => o t (List.mem_cons_of_mem _ ht)
section
variable {n : Nat} {p : Nat → Nat} {F F' : PF}
theorem swp_ren (P : Pm n p) {a b y : Nat} (ha : a < n) (hb : b < n) (hy : y < n) : swp (p a) (p b) (p y) = p (swp a b y) := by
  unfold swp
  by_cases h1 : y = a
  · subst h1; rw [if_pos rfl, if_pos rfl]
  · rw [if_neg h1, if_neg fun q => h1 (P.inj hy ha q)]
    by_cases h2 : y = b
    · subst h2; rw [if_pos rfl, if_pos rfl]
    · rw [if_neg h2, if_neg fun q => h2 (P.inj hy hb q)]
theorem appS_ren (P : Pm n p) (hF : PI n F) (r : Ren n p F F') {s : Stp} (o : s.ok n) : Ren n p (appS s F) (appS (s.ren p) F') := by
  cases s with
  | sw a b =>
    obtain ⟨ha, hb, _⟩ := o
    intro x hx
    show (F' (p x)).map (swp (p a) (p b)) = ((F x).map (swp a b)).map p
    rw [r x hx]
    cases e : F x with
    | none => rfl
    | some y =>
      show some (swp (p a) (p b) (p y)) = some (p (swp a b y))
      rw [swp_ren P ha hb (hF.dom e).2]
  | fg a =>
    intro x hx
    show (if p x = p a then none else F' (p x)) = (if x = a then none else F x).map p
    by_cases h : x = a
    · subst h; rw [if_pos rfl, if_pos rfl]; rfl
    · rw [if_neg h, if_neg fun q => h (P.inj hx o q), r x hx]
theorem appL_ren (P : Pm n p) : ∀ {ss : List Stp} {F F' : PF}, PI n F → Ren n p F F' → (∀ s ∈ ss, s.ok n) → Ren n p (appL ss F) (appL (ss.map (Stp.ren p)) F')
  | [], _, _, _, r, _ => r
  | s :: ss, F, F', hF, r, o => appL_ren P (ss := ss) (appS_pi hF (o s List.mem_cons_self)) (appS_ren P hF r (o s List.mem_cons_self)) fun t ht => o t (List.mem_cons_of_mem _ ht)
theorem ok_ren (P : Pm n p) {s : Stp} (o : s.ok n) : (s.ren p).ok n := by
  cases s with
  | sw a b => exact ⟨P.lt o.1, P.lt o.2.1, fun q => o.2.2 (P.inj o.1 o.2.1 q)⟩
  | fg a => exact P.lt o
end
/-! ### the steps that lead from f to g -/
def linkF (n : Nat) (f g : PF) : PF := mulF (invF n f) g
def lkB (n : Nat) (f g : PF) : Bool := (arr n g).all fun p => (f p.1).isSome
def prts (n : Nat) (f g : PF) : List (List Nat) := cys n (linkF n f g) ++ chs n (linkF n f g)
def swOf (r0 e : Nat) : Stp := if r0 < e then .sw r0 e else .sw e r0
def rowSt : List Nat → List Stp
  | [] => []
  | r0 :: r => r.map (swOf r0)
def forg (n : Nat) (f g : PF) : List Stp := ((arr n f).map (·.1)).filterMap fun x => if (g x).isSome then none else some (.fg x)
def stL (n : Nat) (f g : PF) : List Stp := (prts n f g).flatMap rowSt ++ forg n f g
section
variable {n : Nat} {f g : PF}
theorem linkF_pi (hf : PI n f) (hg : PI n g) : PI n (linkF n f g) := mulF_pi (invF_pi hf) hg
theorem lkB_iff (hg : PI n g) : lkB n f g = true ↔ ∀ x y, g x = some y → (f x).isSome := by
  unfold lkB
  rw [List.all_eq_true]
  constructor
  · intro h x y e; exact h (x, y) (arr_mem.mpr ⟨(hg.dom e).1, e⟩)
  · rintro h ⟨x, y⟩ hp; exact h x y (arr_mem.mp hp).2
/-- the table that link_of makes -/
theorem rep_link (hf : PI n f) (hg : PI n g) : Rep ((arr n g).filterMap fun p => (f p.1).map fun y => (y, p.2)) (linkF n f g) := by
  refine ⟨?_, fun {x y} => ?_⟩
  · have nd : ((arr n g).map (·.1)).Nodup := arr_nodup n g
    have : ((arr n g).filterMap fun p => (f p.1).map fun y => (y, p.2)).map (·.1) = (arr n g).filterMap fun p => f p.1 := by
      rw [List.map_filterMap]
      congr 1
      funext p
      cases f p.1 <;> rfl
    rw [this]
    have h2 : (arr n g).filterMap (fun p => f p.1) = ((arr n g).map (·.1)).filterMap f := by rw [List.filterMap_map]; rfl
    rw [h2]
    refine (List.pairwise_filterMap (f := f)).mpr (nd.imp fun {a b} hab y hy z hz e => ?_)
    subst e
    exact hab (hf.inj hy hz)
  · rw [List.mem_filterMap]
    unfold linkF mulF
    constructor
    · rintro ⟨⟨a, b⟩, hp, e⟩
      obtain ⟨z, hz, e⟩ := Option.map_eq_some_iff.mp e
      cases e
      rw [(invF_iff hf).mpr hz]
      exact (arr_mem.mp hp).2
    · intro e
      obtain ⟨a, ha, hb⟩ := Option.bind_eq_some_iff.mp e
      have := (invF_iff hf).mp ha
      exact ⟨(a, y), arr_mem.mpr ⟨(hg.dom hb).1, hb⟩, by simp [this]⟩
end
/-- one row's swaps send each to the next -/
def actV : Stp → Nat → Nat
  | .sw a b, v => swp a b v
  | .fg _, v => v
def foldV (ss : List Stp) (v : Nat) : Nat := ss.foldl (fun v s => actV s v) v
theorem foldV_cons (s : Stp) (ss : List Stp) (v : Nat) : foldV (s :: ss) v = foldV ss (actV s v) := rfl
theorem swOf_eq (a b v : Nat) : actV (swOf a b) v = swp a b v := by
  unfold swOf
  by_cases h : a < b
  · rw [if_pos h]; rfl
  · rw [if_neg h]; exact swp_comm _ _ _
theorem fold_out {r0 v : Nat} : ∀ {r : List Nat}, v ≠ r0 → v ∉ r → foldV (r.map (swOf r0)) v = v
  | [], _, _ => rfl
  | e :: r, h1, h2 => by
    rw [List.mem_cons, not_or] at h2
    rw [List.map_cons, foldV_cons, swOf_eq]
    have : swp r0 e v = v := by unfold swp; rw [if_neg h1, if_neg h2.1]
    rw [this]
    exact fold_out h1 h2.2
theorem fold_first {r0 e : Nat} {r : List Nat} (h : (r0 :: e :: r).Nodup) : foldV ((e :: r).map (swOf r0)) r0 = e := by
  rw [List.map_cons, foldV_cons, swOf_eq]
  have : swp r0 e r0 = e := by unfold swp; rw [if_pos rfl]
  rw [this]
  rw [List.nodup_cons, List.nodup_cons] at h
  exact fold_out (fun q => h.1 (q ▸ List.mem_cons_self)) h.2.1
theorem fold_next {r0 : Nat} : ∀ {r : List Nat}, (r0 :: r).Nodup → ∀ i v, r[i]? = some v → foldV (r.map (swOf r0)) v = (r[i + 1]?).getD r0
  | [], _, i, v, e => by simp at e
  | e :: r, h, 0, v, ev => by
    have ev : some e = some v := ev
    cases ev
    have nd := h
    rw [List.nodup_cons, List.nodup_cons] at nd
    have hne : e ≠ r0 := fun q => nd.1 (q ▸ List.mem_cons_self)
    rw [List.map_cons, foldV_cons, swOf_eq]
    have : swp r0 e e = r0 := by unfold swp; rw [if_neg hne, if_pos rfl]
    rw [this]
    cases r with
    | nil => rfl
    | cons a r =>
      rw [fold_first (h.sublist (.cons_cons _ (List.sublist_cons_self e (a :: r))))]
      rfl
  | e :: r, h, i + 1, v, ev => by
    have ev' : r[i]? = some v := ev
    have nd := h
    rw [List.nodup_cons, List.nodup_cons] at nd
    have hv := List.mem_of_getElem? ev'
    have h1 : v ≠ r0 := fun q => nd.1 (List.mem_cons_of_mem _ (q ▸ hv))
    have h2 : v ≠ e := fun q => nd.2.1 (q ▸ hv)
    rw [List.map_cons, foldV_cons, swOf_eq]
    have : swp r0 e v = v := by unfold swp; rw [if_neg h1, if_neg h2]
    rw [this, fold_next (r := r) (h.sublist (.cons_cons _ (List.sublist_cons_self e r))) i v ev']
    rfl
theorem foldV_append (s t : List Stp) (v : Nat) : foldV (s ++ t) v = foldV t (foldV s v) := by unfold foldV; rw [List.foldl_append]
/-- a row's swaps: each goes to the next, the last to the first -/
theorem rowSt_next {r : List Nat} (h : r.Nodup) {i v : Nat} (e : r[i]? = some v) : ∃ u, r[(i + 1) % r.length]? = some u ∧ foldV (rowSt r) v = u := by
  cases r with
  | nil => simp at e
  | cons r0 r =>
    have hi := (List.getElem?_eq_some_iff.mp e).1
    rw [List.length_cons] at hi ⊢
    by_cases hl : i + 1 < r.length + 1
    · rw [Nat.mod_eq_of_lt hl]
      refine ⟨_, List.getElem?_eq_getElem (by rw [List.length_cons]; exact hl), ?_⟩
      cases i with
      | zero =>
        have e : some r0 = some v := e
        cases e
        cases r with
        | nil => simp at hl
        | cons a r => exact fold_first h
      | succ i =>
        have e' : r[i]? = some v := e
        have := fold_next h i v e'
        show foldV (r.map (swOf r0)) v = _
        rw [this, List.getElem?_eq_getElem (by omega)]
        rfl
    · have hi' : i = r.length := by omega
      subst hi'
      rw [Nat.mod_self]
      refine ⟨r0, rfl, ?_⟩
      cases r with
      | nil => have e : some r0 = some v := e; cases e; rfl
      | cons a r =>
        have e' : (a :: r)[r.length]? = some v := e
        have := fold_next h r.length v e'
        show foldV ((a :: r).map (swOf r0)) v = _
        rw [this, List.getElem?_eq_none (by simp)]
        rfl
theorem rowSt_out {r : List Nat} {v : Nat} (h : v ∉ r) : foldV (rowSt r) v = v := by
  cases r with
  | nil => rfl
  | cons r0 r =>
    rw [List.mem_cons, not_or] at h
    exact fold_out h.1 h.2
theorem rowSt_mem {r : List Nat} (h : r.Nodup) {v : Nat} (hv : v ∈ r) : foldV (rowSt r) v ∈ r := by
  obtain ⟨i, e⟩ := List.mem_iff_getElem?.mp hv
  obtain ⟨u, hu, e2⟩ := rowSt_next h e
  rw [e2]
  exact List.mem_of_getElem? hu
/-- all rows together -/
theorem rows_fold : ∀ {rs : List (List Nat)}, rs.flatten.Nodup → ∀ r ∈ rs, ∀ v ∈ r, foldV (rs.flatMap rowSt) v = foldV (rowSt r) v
  | [], _, r, hr, _, _ => by cases hr
  | r1 :: rs, nd, r, hr, v, hv => by
    rw [List.flatten_cons, List.nodup_append] at nd
    obtain ⟨n1, n2, dj⟩ := nd
    rw [List.flatMap_cons, foldV_append]
    rcases List.mem_cons.mp hr with e | e
    · subst e
      have hm := rowSt_mem n1 hv
      have out : ∀ {rs : List (List Nat)} {z : Nat}, z ∉ rs.flatten → foldV (rs.flatMap rowSt) z = z := by
        intro rs
        induction rs with
        | nil => intro z _; rfl
        | cons a rs ih =>
          intro z hz
          rw [List.flatten_cons, List.mem_append, not_or] at hz
          rw [List.flatMap_cons, foldV_append, rowSt_out hz.1, ih hz.2]
      exact out fun q => dj _ hm _ q rfl
    · have : v ∉ r1 := fun q => dj v q v (List.mem_flatten.mpr ⟨r, e, hv⟩) rfl
      rw [rowSt_out this]
      exact rows_fold n2 r e v hv
/-- swaps as one -/
theorem appL_swaps : ∀ {ss : List Stp} {F : PF}, (∀ s ∈ ss, ∃ a b, s = .sw a b) → appL ss F = fun x => (F x).map (foldV ss)
  | [], F, _ => by funext x; show F x = (F x).map id; rw [Option.map_id]; rfl
  | s :: ss, F, h => by
    obtain ⟨a, b, rfl⟩ := h s List.mem_cons_self
    show appL ss (appS (.sw a b) F) = _
    rw [appL_swaps (ss := ss) fun t ht => h t (List.mem_cons_of_mem _ ht)]
    funext x
    show ((F x).map (swp a b)).map (foldV ss) = (F x).map (foldV (.sw a b :: ss))
    rw [Option.map_map]; rfl
theorem appL_append (ss tt : List Stp) (F : PF) : appL (ss ++ tt) F = appL tt (appL ss F) := by unfold appL; rw [List.foldl_append]
theorem appL_forg : ∀ {xs : List Nat} {F : PF}, appL (xs.map Stp.fg) F = fun x => if x ∈ xs then none else F x
  | [], F => by funext x; simp [appL]
  | a :: xs, F => by
    show appL (xs.map Stp.fg) (appS (.fg a) F) = _
    rw [appL_forg]
    funext x
    show (if x ∈ xs then none else if x = a then none else F x) = _
    by_cases h1 : x ∈ xs
    · rw [if_pos h1, if_pos (List.mem_cons_of_mem _ h1)]
    · rw [if_neg h1]
      by_cases h2 : x = a
      · rw [if_pos h2, if_pos (by rw [h2]; exact List.mem_cons_self)]
      · rw [if_neg h2, if_neg fun q => (List.mem_cons.mp q).elim h2 h1]
end CM
namespace CM
section
variable {n : Nat} {f g : PF}
theorem prts_nodup (hf : PI n f) (hg : PI n g) : (prts n f g).flatten.Nodup := by
  unfold prts
  rw [List.flatten_append]
  exact parts_nodup (linkF_pi hf hg)
theorem prts_mem (hf : PI n f) (hg : PI n g) {v : Nat} (hv : v < n) : ∃ r ∈ prts n f g, v ∈ r := by
  have p := (parts_perm (linkF_pi hf hg)).mem_iff (a := v)
  have := p.mpr (List.mem_range.mpr hv)
  rw [← List.flatten_append] at this
  exact List.mem_flatten.mp this
theorem prts_row (hf : PI n f) (hg : PI n g) {r : List Nat} (hr : r ∈ prts n f g) : ∃ x, x < n ∧ r = row n (linkF n f g) x := by
  rcases List.mem_append.mp hr with h | h
  · obtain ⟨x, hx, _, e⟩ := (cys_spec (linkF_pi hf hg)).2.2.1 r h
    exact ⟨x, hx, e⟩
  · obtain ⟨x, hx, _, e⟩ := chs_mem h
    exact ⟨x, hx, e⟩
theorem row_next {h : PF} (hp : PI n h) {x v u i : Nat} (hx : x < n) (e : (row n h x)[i]? = some v) (hu : h v = some u) : (row n h x)[(i + 1) % (row n h x).length]? = some u := by
  have ro := row_ok hp hx
  rcases ro.last with c | c
  · have := ro.pow_open c e 1
    rw [it_one, hu] at this
    have hl := (List.getElem?_eq_some_iff.mp this.symm).1
    rw [Nat.mod_eq_of_lt hl]
    exact this.symm
  · have := ro.pow_closed c e 1
    rw [it_one, hu] at this
    exact this.symm
theorem fg_fm (g : PF) : ∀ l : List Nat, (l.filterMap fun x => if (g x).isSome then none else some (Stp.fg x)) = (l.filter fun x => (g x).isNone).map Stp.fg
  | [] => rfl
  | x :: l => by
    rw [List.filterMap_cons, List.filter_cons, fg_fm g l]
    cases g x <;> rfl
theorem forg_eq (n : Nat) (f g : PF) : ∃ xs : List Nat, forg n f g = xs.map Stp.fg ∧ ∀ x, x ∈ xs ↔ x < n ∧ (f x).isSome ∧ g x = none := by
  refine ⟨((arr n f).map (·.1)).filter fun x => (g x).isNone, ?_, fun x => ?_⟩
  · exact fg_fm g _
  · rw [List.mem_filter, arr_keys, List.mem_filter, List.mem_range]
    constructor
    · rintro ⟨⟨h1, h2⟩, h3⟩; exact ⟨h1, h2, by simpa using h3⟩
    · rintro ⟨h1, h2, h3⟩; exact ⟨⟨h1, h2⟩, by simp [h3]⟩
theorem rowSt_sw {r : List Nat} : ∀ s ∈ rowSt r, ∃ a b, s = .sw a b := by
  cases r with
  | nil => intro s hs; cases hs
  | cons r0 r =>
    intro s hs
    obtain ⟨e, _, rfl⟩ := List.mem_map.mp hs
    unfold swOf
    split <;> exact ⟨_, _, rfl⟩
theorem swaps_sw {rs : List (List Nat)} : ∀ s ∈ rs.flatMap rowSt, ∃ a b, s = .sw a b := fun s hs => by
  obtain ⟨r, _, h⟩ := List.mem_flatMap.mp hs
  exact rowSt_sw s h
/-- the steps lead there -/
theorem stL_app (hf : PI n f) (hg : PI n g) (hl : lkB n f g = true) : appL (stL n f g) f = g := by
  obtain ⟨xs, ex, hx⟩ := forg_eq n f g
  unfold stL
  rw [appL_append, ex, appL_forg, appL_swaps swaps_sw]
  funext x
  by_cases h1 : x ∈ xs
  · rw [if_pos h1, ((hx x).mp h1).2.2]
  · rw [if_neg h1]
    cases ef : f x with
    | none =>
      cases eg : g x with
      | none => show (f x).map _ = none; rw [ef]; rfl
      | some y =>
        have := (lkB_iff hg).mp hl x y eg
        rw [ef] at this; cases this
    | some v =>
      cases eg : g x with
      | none => exact absurd ((hx x).mpr ⟨(hf.dom ef).1, by rw [ef]; rfl, eg⟩) h1
      | some u =>
        have hu : linkF n f g v = some u := by
          unfold linkF mulF
          rw [(invF_iff hf).mpr ef]; exact eg
        obtain ⟨r, hr, hv⟩ := prts_mem hf hg (hf.dom ef).2
        obtain ⟨x0, hx0, er⟩ := prts_row hf hg hr
        obtain ⟨i, ei⟩ := List.mem_iff_getElem?.mp hv
        have nd : r.Nodup := by rw [er]; exact (row_ok (linkF_pi hf hg) hx0).nd
        obtain ⟨w, hw, e2⟩ := rowSt_next nd ei
        show (f x).map _ = some u
        rw [ef]
        show some (foldV _ v) = some u
        rw [rows_fold (prts_nodup hf hg) r hr v hv, e2]
        have e3 := row_next (linkF_pi hf hg) hx0 (by rw [← er]; exact ei) hu
        rw [← er] at e3
        rw [hw] at e3
        exact e3
theorem stL_ok (hf : PI n f) (hg : PI n g) : ∀ s ∈ stL n f g, s.ok n := fun s hs => by
  rcases List.mem_append.mp hs with h | h
  · obtain ⟨r, hr, hsr⟩ := List.mem_flatMap.mp h
    obtain ⟨x0, hx0, er⟩ := prts_row hf hg hr
    have ro := row_ok (linkF_pi hf hg) hx0
    rw [← er] at ro
    have lt := ro.lt (linkF_pi hf hg) hx0
    cases r with
    | nil => cases hsr
    | cons r0 r =>
      obtain ⟨e, he, rfl⟩ := List.mem_map.mp hsr
      have nd := ro.nd
      rw [List.nodup_cons] at nd
      have hne : r0 ≠ e := fun q => nd.1 (q ▸ he)
      have l1 := lt r0 List.mem_cons_self
      have l2 := lt e (List.mem_cons_of_mem _ he)
      unfold swOf
      split
      · exact ⟨l1, l2, hne⟩
      · exact ⟨l2, l1, hne.symm⟩
  · obtain ⟨xs, ex, hx⟩ := forg_eq n f g
    rw [ex] at h
    obtain ⟨x, hxm, rfl⟩ := List.mem_map.mp h
    exact ((hx x).mp hxm).1
/-! ### numbers under a renaming -/
variable {p : Nat → Nat} {f' g' : PF}
theorem countP_ren (P : Pm n p) {q q' : Nat → Bool} (h : ∀ x, x < n → q' (p x) = q x) : (List.range n).countP q' = (List.range n).countP q := by
  rw [← (P.perm).countP_eq q', List.countP_map]
  exact List.countP_congr fun x hx => by
    show q' (p x) = true ↔ _
    rw [h x (List.mem_range.mp hx)]
theorem arr_len_eq (n : Nat) (f : PF) : (arr n f).length = (List.range n).countP fun x => (f x).isSome := by
  have := congrArg List.length (arr_keys n f)
  rw [List.length_map] at this
  rw [this, List.countP_eq_length_filter]
theorem arr_len_ren (P : Pm n p) (r : Ren n p f f') : (arr n f').length = (arr n f).length := by
  rw [arr_len_eq, arr_len_eq]
  exact countP_ren P fun x hx => by rw [r x hx, Option.isSome_map]
theorem lkB_eq (hf : PI n f) (n' : n = n) : lkB n f g = (List.range n).all fun x => !(g x).isSome || (f x).isSome := by
  unfold lkB arr
  rw [Bool.eq_iff_iff, List.all_eq_true, List.all_eq_true]
  constructor
  · intro h x hx
    cases e : g x with
    | none => rfl
    | some y =>
      have := h (x, y) (List.mem_filterMap.mpr ⟨x, hx, by rw [e]; rfl⟩)
      simpa using this
  · rintro h ⟨x, y⟩ hp
    obtain ⟨a, ha, e⟩ := List.mem_filterMap.mp hp
    obtain ⟨b, hb, e2⟩ := Option.map_eq_some_iff.mp e
    cases e2
    have := h x ha
    rw [hb] at this
    simpa using this
theorem lkB_ren (P : Pm n p) (hf : PI n f) (hf' : PI n f') (hg : PI n g) (hg' : PI n g') (r : Ren n p f f') (r' : Ren n p g g') : lkB n f' g' = lkB n f g := by
  rw [Bool.eq_iff_iff, lkB_iff hg, lkB_iff hg']
  constructor
  · intro h x y e
    have hx := (hg.dom e).1
    have := h (p x) (p y) (by rw [r' x hx, e]; rfl)
    rw [r x hx, Option.isSome_map] at this
    exact this
  · intro h x' y' e
    obtain ⟨x, hx, rfl⟩ := P.surj (hg'.dom e).1
    rw [r' x hx] at e
    obtain ⟨y, hy, _⟩ := Option.map_eq_some_iff.mp e
    rw [r x hx, Option.isSome_map]
    exact h x y hy
theorem link_ren (P : Pm n p) (hf : PI n f) (hf' : PI n f') (r : Ren n p f f') (r' : Ren n p g g') : Ren n p (linkF n f g) (linkF n f' g') := Ren.mul (invF_pi hf) (r.inv P hf hf') r'
/-- the lengths of the parts between two maps -/
def pl (n : Nat) (f g : PF) : List Nat := (prts n f g).map List.length
theorem pl_ren (P : Pm n p) (hf : PI n f) (hf' : PI n f') (hg : PI n g) (hg' : PI n g') (r : Ren n p f f') (r' : Ren n p g g') : (pl n f' g').Perm (pl n f g) := by
  unfold pl prts
  rw [List.map_append, List.map_append]
  have l := link_ren P hf hf' r r'
  exact (cys_ren P (linkF_pi hf hg) (linkF_pi hf' hg') l).append (chs_ren P (linkF_pi hf hg) (linkF_pi hf' hg') l)
theorem pl_sum (hf : PI n f) (hg : PI n g) : (pl n f g).sum = n := by
  unfold pl prts
  rw [List.map_append, List.sum_append]
  exact parts_sum (linkF_pi hf hg)
theorem pl_pos (hf : PI n f) (hg : PI n g) : ∀ k ∈ pl n f g, 0 < k := fun k hk => by
  unfold pl prts at hk
  rw [List.map_append] at hk
  rcases List.mem_append.mp hk with h | h
  · exact cys_pos (linkF_pi hf hg) k h
  · exact chs_pos (linkF_pi hf hg) k h
/-- the distance -/
def dist (n : Nat) (f g : PF) : Nat := (arr n f).length - (arr n g).length + n - (prts n f g).length
theorem dist_ren (P : Pm n p) (hf : PI n f) (hf' : PI n f') (hg : PI n g) (hg' : PI n g') (r : Ren n p f f') (r' : Ren n p g g') : dist n f' g' = dist n f g := by
  have := (pl_ren P hf hf' hg hg' r r').length_eq
  unfold pl at this
  rw [List.length_map, List.length_map] at this
  unfold dist
  rw [arr_len_ren P r, arr_len_ren P r', this]
theorem lk_len (hg : PI n g) (h : lkB n f g = true) : (arr n g).length ≤ (arr n f).length := by
  rw [arr_len_eq, arr_len_eq]
  refine List.countP_mono_left fun x hx e => ?_
  cases q : g x with
  | none => rw [q] at e; cases e
  | some y => exact (lkB_iff hg).mp h x y q
theorem forg_len (hf : PI n f) (hg : PI n g) : (forg n f g).length = (List.range n).countP fun x => (f x).isSome && (g x).isNone := by
  have : forg n f g = (((List.range n).filter fun x => (f x).isSome).filter fun x => (g x).isNone).map Stp.fg := by
    unfold forg
    rw [fg_fm, arr_keys]
  rw [this, List.length_map, List.filter_filter, List.countP_eq_length_filter]
  congr 2
  funext x
  exact Bool.and_comm _ _
theorem forg_ren (P : Pm n p) (hf : PI n f) (hf' : PI n f') (hg : PI n g) (hg' : PI n g') (r : Ren n p f f') (r' : Ren n p g g') : (forg n f' g').length = (forg n f g).length := by
  rw [forg_len hf hg, forg_len hf' hg']
  exact countP_ren P fun x hx => by rw [r x hx, r' x hx]; simp
end
end CM
namespace CM
theorem rowSt_len (r : List Nat) : (rowSt r).length ≤ r.length := by
  cases r with
  | nil => exact Nat.le_refl _
  | cons a r => show (r.map _).length ≤ _; rw [List.length_map, List.length_cons]; omega
theorem flat_len : ∀ rs : List (List Nat), (rs.flatMap rowSt).length ≤ (rs.map List.length).sum
  | [] => Nat.le_refl _
  | r :: rs => by
    rw [List.flatMap_cons, List.length_append, List.map_cons, List.sum_cons]
    have := rowSt_len r
    have := flat_len rs
    omega
theorem take_sum (rs : List (List Nat)) (i : Nat) : ((rs.take i).map List.length).sum ≤ (rs.map List.length).sum := by
  have : ((rs.take i ++ rs.drop i).map List.length).sum = (rs.map List.length).sum := congrArg (fun l => (l.map List.length).sum) (List.take_append_drop i rs)
  rw [List.map_append, List.sum_append] at this
  omega
/-- shortest ways: the parts' lengths, one after another -/
def cshF (a k : Nat) : Nat := if 1 < k then a * k ^ (k - 2) / fac (k - 1) else a
def csh (D : Nat) (ls : List Nat) : Nat := ls.foldl cshF (fac D)
end CM

namespace CM
/-- a table without a source -/
def mns (F : PF) (a : Nat) : PF := fun x => if x = a then none else F x
def setF (F : PF) (o : Option Nat) (t : Nat) : PF := match o with
  | some x => fun z => if z = x then some t else F z
  | none => F
theorem rep_drop {ps : List (Nat × Nat)} {F : PF} (r : Rep ps F) (a : Nat) : Rep (ps.filter fun p => decide (p.1 ≠ a)) (mns F a) := by
  refine ⟨r.nd.sublist (List.filter_sublist.map _), fun {x y} => ?_⟩
  rw [List.mem_filter, r.mem]
  unfold mns
  by_cases h : x = a
  · subst h; simp
  · rw [if_neg h]; simp [h]
theorem rep_put {ps : List (Nat × Nat)} {F : PF} (r : Rep ps F) (x t : Nat) : Rep (ptb ps x t) (setF F (some x) t) := by
  refine ⟨ptb_nd x t r.nd, fun {z y} => ?_⟩
  rw [← lk_iff (ptb_nd x t r.nd), lk_ptb, r.lk]; rfl
theorem mns_none {F : PF} {a : Nat} (h : F a = none) : mns F a = F := by
  funext x
  unfold mns
  by_cases e : x = a
  · subst e; rw [if_pos rfl, h]
  · rw [if_neg e]
theorem inv_uniq {n : Nat} {F G : PF} (h : PI n F) (hG : ∀ x y, G y = some x ↔ F x = some y) : invF n F = G := by
  funext y
  cases e : G y with
  | some x => exact (invF_iff h).mpr ((hG x y).mp e)
  | none =>
    cases q : invF n F y with
    | none => rfl
    | some x =>
      have := (hG x y).mpr ((invF_iff h).mp q)
      rw [e] at this; cases this
theorem fg_inv {n : Nat} {F : PF} (h : PI n F) {a y : Nat} (e : F a = some y) : invF n (appS (.fg a) F) = mns (invF n F) y := by
  have o : PI n (appS (.fg a) F) := appS_pi h (s := .fg a) (h.dom e).1
  refine inv_uniq o fun x z => ?_
  show mns (invF n F) y z = some x ↔ mns F a x = some z
  unfold mns
  constructor
  · intro q
    split at q
    · cases q
    · rename_i hz
      have hx := (invF_iff h).mp q
      rw [if_neg]
      · exact hx
      · rintro rfl; rw [e] at hx; cases hx; exact hz rfl
  · intro q
    split at q
    · cases q
    · rename_i hx
      rw [if_neg]
      · exact (invF_iff h).mpr q
      · rintro rfl; exact hx (h.inj q e)
theorem sw_fun {n : Nat} {F : PF} (h : PI n F) {a b : Nat} (hab : a ≠ b) : setF (setF F (invF n F a) b) (invF n F b) a = appS (.sw a b) F := by
  funext z
  show _ = (F z).map (swp a b)
  have ha : ∀ x, invF n F a = some x ↔ F x = some a := fun x => invF_iff h
  have hb : ∀ x, invF n F b = some x ↔ F x = some b := fun x => invF_iff h
  cases ez : F z with
  | none =>
    have h1 : setF F (invF n F a) b z = none := by
      cases q : invF n F a with
      | none => exact ez
      | some x =>
        show (if z = x then some b else F z) = none
        rw [if_neg, ez]
        rintro rfl; rw [(ha z).mp q] at ez; cases ez
    cases q : invF n F b with
    | none => exact h1
    | some y =>
      show (if z = y then some a else _) = none
      rw [if_neg, h1]
      rintro rfl; rw [(hb z).mp q] at ez; cases ez
  | some v =>
    show _ = some (swp a b v)
    unfold swp
    by_cases va : v = a
    · subst va
      rw [if_pos rfl, (ha z).mpr ez]
      have h1 : setF F (some z) b z = some b := if_pos rfl
      cases q : invF n F b with
      | none => exact h1
      | some y =>
        show (if z = y then some v else _) = some b
        rw [if_neg, h1]
        rintro rfl; have := (hb z).mp q; rw [ez] at this; cases this; exact hab rfl
    · rw [if_neg va]
      by_cases vb : v = b
      · subst vb
        rw [if_pos rfl, (hb z).mpr ez]
        exact if_pos rfl
      · rw [if_neg vb]
        have h1 : setF F (invF n F a) b z = some v := by
          cases q : invF n F a with
          | none => exact ez
          | some x =>
            show (if z = x then some b else F z) = some v
            rw [if_neg, ez]
            rintro rfl; have := (ha z).mp q; rw [ez] at this; cases this; exact va rfl
        cases q : invF n F b with
        | none => exact h1
        | some y =>
          show (if z = y then some a else _) = some v
          rw [if_neg, h1]
          rintro rfl; have := (hb z).mp q; rw [ez] at this; cases this; exact vb rfl
/-- the same of the places: pairs (source, target) in the other order -/
def putI (G : PF) (o : Option Nat) (t : Nat) : PF := match o with
  | some x => fun z => if z = t then some x else G z
  | none => G
theorem sw_inv {n : Nat} {F : PF} (h : PI n F) {a b : Nat} (hab : a ≠ b) (ha : a < n) (hb : b < n) :
    putI (putI (mns (mns (invF n F) a) b) (invF n F a) b) (invF n F b) a = invF n (appS (.sw a b) F) := by
  have o : PI n (appS (.sw a b) F) := appS_pi h (s := .sw a b) ⟨ha, hb, hab⟩
  refine (inv_uniq o fun x z => ?_).symm
  have hA : ∀ x, invF n F a = some x ↔ F x = some a := fun x => invF_iff h
  have hB : ∀ x, invF n F b = some x ↔ F x = some b := fun x => invF_iff h
  have key : (putI (putI (mns (mns (invF n F) a) b) (invF n F a) b) (invF n F b) a) z = invF n F (swp a b z) := by
    unfold swp
    by_cases za : z = a
    · subst za
      rw [if_pos rfl]
      cases q : invF n F b with
      | some y => exact if_pos rfl
      | none =>
        show putI (mns (mns (invF n F) z) b) (invF n F z) b z = none
        have h0 : mns (mns (invF n F) z) b z = none := by unfold mns; rw [if_neg hab, if_pos rfl]
        cases q2 : invF n F z with
        | none => exact h0
        | some x => show (if z = b then some x else _) = none; rw [if_neg hab, h0]
    · rw [if_neg za]
      have skip : ∀ (G : PF) (o : Option Nat), putI G o a z = G z := fun G o => by
        cases o with
        | none => rfl
        | some x => exact if_neg za
      rw [skip]
      by_cases zb : z = b
      · subst zb
        rw [if_pos rfl]
        cases q : invF n F a with
        | some x => exact if_pos rfl
        | none => show mns (mns (invF n F) a) z z = none; exact if_pos rfl
      · rw [if_neg zb]
        have skip2 : ∀ (G : PF) (o : Option Nat), putI G o b z = G z := fun G o => by
          cases o with
          | none => rfl
          | some x => exact if_neg zb
        rw [skip2]
        unfold mns
        rw [if_neg zb, if_neg za]
  rw [key, invF_iff h]
  show F x = some (swp a b z) ↔ (F x).map (swp a b) = some z
  constructor
  · intro e; rw [e]; show some (swp a b (swp a b z)) = some z; rw [swp_swp]
  · intro e
    obtain ⟨v, hv, e2⟩ := Option.map_eq_some_iff.mp e
    rw [hv, ← e2, swp_swp]
end CM
end

section
set_option linter.all false
/-! M6: pairs within the parts, counted. Plain Lean. -/
namespace CM
section
variable {α β : Type}
theorem sum_map_add (f g : α → Nat) : ∀ l : List α, (l.map fun x => f x + g x).sum = (l.map f).sum + (l.map g).sum
  | [] => rfl
  | a :: l => by
    rw [List.map_cons, List.map_cons, List.map_cons, List.sum_cons, List.sum_cons, List.sum_cons, sum_map_add f g l]
    omega
theorem sum_map_congr {f g : α → Nat} {l : List α} (h : ∀ x ∈ l, f x = g x) : (l.map f).sum = (l.map g).sum := by rw [List.map_congr_left h]
theorem sum_map_const (c : Nat) : ∀ l : List α, (l.map fun _ => c).sum = l.length * c
  | [] => by simp
  | a :: l => by rw [List.map_cons, List.sum_cons, sum_map_const c l, List.length_cons, Nat.succ_mul]; omega
theorem count_swap (q : α → β → Bool) (m : List β) : ∀ l : List α, (l.map fun x => m.countP (q x)).sum = (m.map fun y => l.countP fun x => q x y).sum
  | [] => by
    show 0 = (m.map fun _ => 0).sum
    rw [sum_map_const]; simp
  | a :: l => by
    rw [List.map_cons, List.sum_cons, count_swap q m l]
    have h1 : (m.map fun y => (a :: l).countP fun x => q x y) = m.map fun y => (if q a y = true then 1 else 0) + l.countP fun x => q x y := by
      refine List.map_congr_left fun y _ => ?_
      rw [List.countP_cons]; omega
    rw [h1, sum_map_add]
    congr 1
    clear h1
    induction m with
    | nil => rfl
    | cons b m ih => rw [List.countP_cons, List.map_cons, List.sum_cons, ih]; omega
theorem countP_three {p p1 p2 p3 : α → Bool} (h : ∀ x, (if p x = true then 1 else 0) = (if p1 x = true then 1 else 0) + (if p2 x = true then 1 else 0) + (if p3 x = true then 1 else 0)) : ∀ l : List α, l.countP p = l.countP p1 + l.countP p2 + l.countP p3
  | [] => rfl
  | a :: l => by
    rw [List.countP_cons, List.countP_cons, List.countP_cons, List.countP_cons, countP_three h l, h a]
    omega
end
/-- how many later ones stand in the same part -/
def cnt1 (n : Nat) (hm : Nat → Nat) (x : Nat) : Nat := ((List.range (n - (x + 1))).filter fun k => decide (hm (x + 1 + k) = hm x)).length
def nsU (n : Nat) (hm : Nat → Nat) : Nat := ((List.range n).map (cnt1 n hm)).sum
theorem cnt1_eq {n : Nat} {hm : Nat → Nat} {x : Nat} (hx : x < n) : cnt1 n hm x = (List.range n).countP fun y => decide (x < y) && decide (hm y = hm x) := by
  unfold cnt1
  have e : n = (x + 1) + (n - (x + 1)) := by omega
  have er : List.range n = List.range (x + 1) ++ (List.range (n - (x + 1))).map fun k => x + 1 + k := by
    conv => lhs; rw [e]
    rw [List.range_add]
  rw [er, List.countP_append, List.countP_map]
  have h0 : (List.range (x + 1)).countP (fun y => decide (x < y) && decide (hm y = hm x)) = 0 := by
    rw [List.countP_eq_zero]
    intro y hy
    have := List.mem_range.mp hy
    simp; omega
  rw [h0, Nat.zero_add, ← List.countP_eq_length_filter]
  refine List.countP_congr fun k _ => ?_
  show _ ↔ (decide (x < x + 1 + k) && decide (hm (x + 1 + k) = hm x)) = true
  rw [decide_eq_true (show x < x + 1 + k by omega), Bool.true_and]
theorem count_one {x : Nat} : ∀ {n : Nat}, (List.range n).countP (fun y => decide (y = x)) = if x < n then 1 else 0
  | 0 => rfl
  | n + 1 => by
    rw [List.range_succ, List.countP_append, count_one (n := n), List.countP_singleton]
    by_cases h : n = x
    · subst h; simp
    · rw [if_neg (show ¬ decide (n = x) = true by simpa using h)]
      by_cases h2 : x < n
      · rw [if_pos h2, if_pos (by omega)]
      · rw [if_neg h2, if_neg (by omega)]
theorem nsU_twice (n : Nat) (hm : Nat → Nat) : ((List.range n).map fun x => (List.range n).countP fun y => decide (hm y = hm x)).sum = 2 * nsU n hm + n := by
  have h1 : ∀ x, (List.range n).countP (fun y => decide (hm y = hm x)) = (List.range n).countP (fun y => decide (x < y) && decide (hm y = hm x)) + (List.range n).countP (fun y => decide (y < x) && decide (hm y = hm x)) + (List.range n).countP (fun y => decide (y = x)) := fun x => by
    refine countP_three (fun y => ?_) _
    by_cases e : hm y = hm x
    · rw [decide_eq_true e, Bool.and_true, Bool.and_true]
      rcases Nat.lt_trichotomy x y with h | h | h
      · rw [decide_eq_true h, decide_eq_false (show ¬ y < x by omega), decide_eq_false (show ¬ y = x by omega)]; simp
      · rw [decide_eq_false (show ¬ x < y by omega), decide_eq_false (show ¬ y < x by omega), decide_eq_true (show y = x by omega)]; simp
      · rw [decide_eq_false (show ¬ x < y by omega), decide_eq_true h, decide_eq_false (show ¬ y = x by omega)]; simp
    · have ne : ¬ y = x := fun h => e (by rw [h])
      rw [decide_eq_false e, decide_eq_false ne]; simp
  have h2 : ∀ x ∈ List.range n, (List.range n).countP (fun y => decide (y = x)) = 1 := fun x hx => by
    rw [count_one, if_pos (List.mem_range.mp hx)]
  rw [sum_map_congr (g := fun x => (List.range n).countP (fun y => decide (x < y) && decide (hm y = hm x)) + (List.range n).countP (fun y => decide (y < x) && decide (hm y = hm x)) + 1) fun x hx => by rw [h1, h2 x hx]]
  rw [sum_map_add, sum_map_add, sum_map_const, List.length_range, Nat.mul_one]
  have h3 : ((List.range n).map fun x => (List.range n).countP fun y => decide (y < x) && decide (hm y = hm x)).sum = ((List.range n).map fun x => (List.range n).countP fun y => decide (x < y) && decide (hm y = hm x)).sum := by
    rw [count_swap (fun x y => decide (y < x) && decide (hm y = hm x))]
    refine sum_map_congr fun y _ => List.countP_congr fun x _ => ?_
    simp only [Bool.and_eq_true, decide_eq_true_eq]
    constructor <;> rintro ⟨a, b⟩ <;> exact ⟨a, b.symm⟩
  have h4 : nsU n hm = ((List.range n).map fun x => (List.range n).countP fun y => decide (x < y) && decide (hm y = hm x)).sum := sum_map_congr fun x hx => cnt1_eq (List.mem_range.mp hx)
  rw [h3, h4]; omega
/-- where an element stands among the rows -/
def hmL (rs : List (List Nat)) (v : Nat) : Nat := rs.findIdx fun r => decide (v ∈ r)
theorem hmL_at : ∀ {rs : List (List Nat)}, rs.flatten.Nodup → ∀ i r, rs[i]? = some r → ∀ v ∈ r, hmL rs v = i
  | [], _, i, r, e, _, _ => by simp at e
  | a :: rs, nd, 0, r, e, v, hv => by
    have e : some a = some r := e
    cases e
    unfold hmL
    rw [List.findIdx_cons, decide_eq_true hv]; rfl
  | a :: rs, nd, i + 1, r, e, v, hv => by
    have e' : rs[i]? = some r := e
    rw [List.flatten_cons, List.nodup_append] at nd
    have : v ∉ a := fun q => nd.2.2 v q v (List.mem_flatten.mpr ⟨r, List.mem_of_getElem? e', hv⟩) rfl
    have ih := hmL_at nd.2.1 i r e' v hv
    unfold hmL at ih ⊢
    rw [List.findIdx_cons, decide_eq_false this, ih]; rfl
theorem sum_flat (φ : Nat → Nat) : ∀ rs : List (List Nat), (rs.flatten.map φ).sum = (rs.map fun r => (r.map φ).sum).sum
  | [] => rfl
  | r :: rs => by rw [List.flatten_cons, List.map_append, List.sum_append, List.map_cons, List.sum_cons, sum_flat φ rs]
theorem count_part {rs : List (List Nat)} (nd : rs.flatten.Nodup) {r : List Nat} (hr : r ∈ rs) {x : Nat} (hx : x ∈ r) : rs.flatten.countP (fun y => decide (hmL rs y = hmL rs x)) = r.length := by
  obtain ⟨i, ei⟩ := List.mem_iff_getElem?.mp hr
  have ex := hmL_at nd i r ei x hx
  have h1 : rs.flatten.countP (fun y => decide (hmL rs y = hmL rs x)) = rs.flatten.countP fun y => decide (y ∈ r) := by
    refine List.countP_congr fun y hy => ?_
    simp only [decide_eq_true_eq]
    obtain ⟨s, hs, hys⟩ := List.mem_flatten.mp hy
    obtain ⟨j, ej⟩ := List.mem_iff_getElem?.mp hs
    have ey := hmL_at nd j s ej y hys
    constructor
    · intro h
      rw [ey, ex] at h
      subst h
      rw [ei] at ej; cases ej; exact hys
    · intro h; rw [hmL_at nd i r ei y h, ex]
  rw [h1, List.countP_eq_length_filter]
  have rn : r.Nodup := nd.sublist (List.sublist_flatten_of_mem hr)
  refine List.Perm.length_eq ((List.perm_ext_iff_of_nodup (nodup_filter nd _) rn).2 fun y => ?_)
  rw [List.mem_filter]
  constructor
  · intro h; simpa using h.2
  · intro h; exact ⟨List.mem_flatten.mpr ⟨r, hr, h⟩, by simpa using h⟩
theorem pairs_sum {n : Nat} {rs : List (List Nat)} (nd : rs.flatten.Nodup) (p : rs.flatten.Perm (List.range n)) : 2 * nsU n (hmL rs) + n = (rs.map fun r => r.length * r.length).sum := by
  rw [← nsU_twice]
  have h1 : ((List.range n).map fun x => (List.range n).countP fun y => decide (hmL rs y = hmL rs x)).sum = (rs.flatten.map fun x => rs.flatten.countP fun y => decide (hmL rs y = hmL rs x)).sum := by
    rw [← (p.map fun x => (List.range n).countP fun y => decide (hmL rs y = hmL rs x)).sum_nat]
    exact sum_map_congr fun x _ => (p.countP_eq _).symm
  rw [h1, sum_flat]
  refine sum_map_congr fun r hr => ?_
  rw [sum_map_congr (g := fun _ => r.length) fun x hx => count_part nd hr hx, sum_map_const]
section
variable {n : Nat} {p : Nat → Nat} {f g f' g' : PF}
theorem prts_perm (hf : PI n f) (hg : PI n g) : (prts n f g).flatten.Perm (List.range n) := by
  unfold prts
  rw [List.flatten_append]
  exact parts_perm (linkF_pi hf hg)
theorem nsU_ren (P : Pm n p) (hf : PI n f) (hf' : PI n f') (hg : PI n g) (hg' : PI n g') (r : Ren n p f f') (r' : Ren n p g g') : nsU n (hmL (prts n f' g')) = nsU n (hmL (prts n f g)) := by
  have h1 := pairs_sum (prts_nodup hf hg) (prts_perm hf hg)
  have h2 := pairs_sum (prts_nodup hf' hg') (prts_perm hf' hg')
  have h3 := ((pl_ren P hf hf' hg hg' r r').map fun k => k * k).sum_nat
  unfold pl at h3
  rw [List.map_map, List.map_map] at h3
  have h4 : ((prts n f' g').map fun r => r.length * r.length).sum = ((prts n f g).map fun r => r.length * r.length).sum := h3
  omega
end
end CM
end

section
set_option linter.all false
/-! M7: roots: which groups, which places; obstacles. Plain Lean. -/
namespace CM
/-! ### a list of lengths in rising order -/
theorem take_same {L : Nat} : ∀ (g : Nat) (ls : List Nat), ls.Pairwise (· ≤ ·) → (∀ x ∈ ls, L ≤ x) → g ≤ ls.count L → (∀ x ∈ ls.take g, x = L) ∧ g ≤ ls.length
  | 0, ls, _, _, _ => ⟨fun x h => by simp at h, Nat.zero_le _⟩
  | g + 1, [], _, _, h => by simp at h
  | g + 1, a :: ls, hs, hm, h => by
    rw [List.pairwise_cons] at hs
    have ha : a = L := by
      refine Nat.le_antisymm ?_ (hm a List.mem_cons_self)
      by_cases e : a = L
      · exact Nat.le_of_eq e
      · rw [List.count_cons_of_ne e] at h
        have : L ∈ ls := List.count_pos_iff.mp (by omega)
        exact hs.1 L this
    subst ha
    rw [List.count_cons_self] at h
    obtain ⟨h1, h2⟩ := take_same g ls hs.2 (fun x hx => hm x (List.mem_cons_of_mem _ hx)) (by omega)
    refine ⟨fun x hx => ?_, by rw [List.length_cons]; omega⟩
    rw [List.take_succ_cons] at hx
    rcases List.mem_cons.mp hx with e | e
    · exact e
    · exact h1 x e
/-- the places of a group's elements do not meet -/
def posB (g L d : Nat) : Bool := (List.range g).all fun s => (List.range L).all fun t => (List.range g).all fun s' => (List.range L).all fun t' => decide ((s + t * d) % (g * L) = (s' + t' * d) % (g * L) → s = s' ∧ t = t')
def degs : List Nat := [2, 3, 4, 6]
theorem gsz_ok : ∀ d ∈ degs, ∀ L, L ≤ 12 → 0 < L → 0 < gsz L d ∧ gsz L d ≤ 12 ∧ (gsz L d * L ≤ 12 → posB (gsz L d) L d = true) := by decide +kernel
theorem posB_inj {g L d : Nat} (h : posB g L d = true) {s t s' t' : Nat} (hs : s < g) (ht : t < L) (hs' : s' < g) (ht' : t' < L) (e : (s + t * d) % (g * L) = (s' + t' * d) % (g * L)) : s = s' ∧ t = t' := by
  unfold posB at h
  rw [List.all_eq_true] at h
  have h1 := h s (List.mem_range.mpr hs)
  rw [List.all_eq_true] at h1
  have h2 := h1 t (List.mem_range.mpr ht)
  rw [List.all_eq_true] at h2
  have h3 := h2 s' (List.mem_range.mpr hs')
  rw [List.all_eq_true] at h3
  exact (of_decide_eq_true (h3 t' (List.mem_range.mpr ht'))) e
/-! ### tables whose sources and targets do not repeat -/
structure Tb (n : Nat) (S : List Nat) (ps : List (Nat × Nat)) : Prop where
  kn : (ps.map (·.1)).Nodup
  vn : (ps.map (·.2)).Nodup
  ks : ∀ x ∈ ps.map (·.1), x ∈ S
  vs : ∀ x ∈ ps.map (·.2), x ∈ S
theorem Tb.nil (n : Nat) : Tb n [] [] := ⟨List.nodup_nil, List.nodup_nil, fun _ h => (by cases h), fun _ h => (by cases h)⟩
theorem Tb.append {n : Nat} {S T : List Nat} {ps qs : List (Nat × Nat)} (h1 : Tb n S ps) (h2 : Tb n T qs) (dj : ∀ x ∈ S, x ∉ T) : Tb n (S ++ T) (ps ++ qs) := by
  refine ⟨?_, ?_, fun x hx => ?_, fun x hx => ?_⟩
  · rw [List.map_append, List.nodup_append]
    exact ⟨h1.kn, h2.kn, fun a ha b hb e => dj a (h1.ks a ha) (e ▸ h2.ks b hb)⟩
  · rw [List.map_append, List.nodup_append]
    exact ⟨h1.vn, h2.vn, fun a ha b hb e => dj a (h1.vs a ha) (e ▸ h2.vs b hb)⟩
  · rw [List.map_append] at hx
    rw [List.mem_append]
    exact (List.mem_append.mp hx).imp (h1.ks x) (h2.ks x)
  · rw [List.map_append] at hx
    rw [List.mem_append]
    exact (List.mem_append.mp hx).imp (h1.vs x) (h2.vs x)
theorem Tb.mono {n : Nat} {S T : List Nat} {ps : List (Nat × Nat)} (h : Tb n S ps) (st : ∀ x ∈ S, x ∈ T) : Tb n T ps := ⟨h.kn, h.vn, fun x hx => st x (h.ks x hx), fun x hx => st x (h.vs x hx)⟩
theorem Tb.rep {n : Nat} {S : List Nat} {ps : List (Nat × Nat)} (h : Tb n S ps) (lt : ∀ x ∈ S, x < n) : Rep ps (lk ps) ∧ PI n (lk ps) := by
  have r : Rep ps (lk ps) := ⟨h.kn, fun {x y} => (lk_iff h.kn).symm⟩
  refine ⟨r, fun {x y} e => ?_, fun {x x' y} e e' => ?_⟩
  · have := r.mem.mpr e
    exact ⟨lt x (h.ks x (List.mem_map.mpr ⟨_, this, rfl⟩)), lt y (h.vs y (List.mem_map.mpr ⟨_, this, rfl⟩))⟩
  · have a := r.mem.mpr e
    have b := r.mem.mpr e'
    obtain ⟨i, ei⟩ := List.mem_iff_getElem?.mp a
    obtain ⟨j, ej⟩ := List.mem_iff_getElem?.mp b
    have e1 : (ps.map (·.2))[i]? = some y := by rw [List.getElem?_map, ei]; rfl
    have e2 : (ps.map (·.2))[j]? = some y := by rw [List.getElem?_map, ej]; rfl
    have := nodup_get h.vn e1 e2
    subst this
    rw [ei] at ej; cases ej; rfl
/-- a row of places as arrows: to the next, the last to the first -/
theorem tb_cyc {n : Nat} {pl : List Nat} (nd : pl.Nodup) : Tb n pl (pl.zip (pl.drop 1 ++ pl.take 1)) := by
  have hl : (pl.drop 1 ++ pl.take 1).length = pl.length := by rw [List.length_append, List.length_drop, List.length_take]; omega
  have k : (pl.zip (pl.drop 1 ++ pl.take 1)).map (·.1) = pl := List.map_fst_zip (by omega)
  have v : (pl.zip (pl.drop 1 ++ pl.take 1)).map (·.2) = pl.drop 1 ++ pl.take 1 := List.map_snd_zip (by omega)
  have pm : (pl.drop 1 ++ pl.take 1).Perm pl := by
    have := List.perm_append_comm (l₁ := pl.drop 1) (l₂ := pl.take 1)
    rwa [List.take_append_drop] at this
  exact ⟨by rw [k]; exact nd, by rw [v]; exact pm.nodup_iff.mpr nd, by rw [k]; exact fun x h => h, by rw [v]; exact fun x h => pm.mem_iff.mp h⟩
/-- .. open -/
theorem tb_open {n : Nat} {pl : List Nat} (nd : pl.Nodup) : Tb n pl (pl.zip (pl.drop 1)) := by
  have v : (pl.zip (pl.drop 1)).map (·.2) = pl.drop 1 := List.map_snd_zip (by rw [List.length_drop]; omega)
  have k : (pl.zip (pl.drop 1)).map (·.1) = pl.take (pl.length - 1) := by
    rw [← List.length_drop]
    have : pl.zip (pl.drop 1) = (pl.take (pl.drop 1).length).zip (pl.drop 1) := by
      rw [List.zip_eq_zip_take_min, List.length_drop, Nat.min_eq_right (by omega), ← List.length_drop, List.take_length]
    rw [this]
    exact List.map_fst_zip (by rw [List.length_take, List.length_drop]; omega)
  refine ⟨by rw [k]; exact nd.sublist (List.take_sublist _ _), by rw [v]; exact nd.sublist (List.drop_sublist _ _), by rw [k]; exact fun x h => List.mem_of_mem_take h, by rw [v]; exact fun x h => List.mem_of_mem_drop h⟩
/-! ### the rows by turns -/
def byTurn (xss : List (List Nat)) (T : Nat) : List Nat := ((List.range T).map fun t => xss.filterMap fun xs => xs[t]?).flatten
theorem byTurn_succ (xss : List (List Nat)) (T : Nat) : byTurn xss (T + 1) = byTurn xss T ++ xss.filterMap fun xs => xs[T]? := by
  unfold byTurn
  rw [List.range_succ, List.map_append, List.flatten_append]; simp
theorem row_unique {xss : List (List Nat)} (nd : xss.flatten.Nodup) {a b : List Nat} (ha : a ∈ xss) (hb : b ∈ xss) {x : Nat} (h1 : x ∈ a) (h2 : x ∈ b) : a = b := by
  obtain ⟨i, ei⟩ := List.mem_iff_getElem?.mp ha
  obtain ⟨j, ej⟩ := List.mem_iff_getElem?.mp hb
  have e1 := hmL_at nd i a ei x h1
  have e2 := hmL_at nd j b ej x h2
  rw [e1] at e2
  subst e2
  rw [ei] at ej; cases ej; rfl
theorem turn_nodup {xss : List (List Nat)} (nd : xss.flatten.Nodup) (t : Nat) : (xss.filterMap fun xs => xs[t]?).Nodup := by
  induction xss with
  | nil => exact List.nodup_nil
  | cons a xss ih =>
    rw [List.flatten_cons, List.nodup_append] at nd
    rw [List.filterMap_cons]
    cases e : a[t]? with
    | none => exact ih nd.2.1
    | some x =>
      show (x :: _).Nodup
      rw [List.nodup_cons]
      refine ⟨fun h => ?_, ih nd.2.1⟩
      obtain ⟨b, hb, eb⟩ := List.mem_filterMap.mp h
      exact nd.2.2 x (List.mem_of_getElem? e) x (List.mem_flatten.mpr ⟨b, hb, List.mem_of_getElem? eb⟩) rfl
theorem byTurn_mem {xss : List (List Nat)} {T x : Nat} (h : x ∈ byTurn xss T) : ∃ t, t < T ∧ ∃ xs ∈ xss, xs[t]? = some x := by
  unfold byTurn at h
  obtain ⟨l, hl, hx⟩ := List.mem_flatten.mp h
  obtain ⟨t, ht, rfl⟩ := List.mem_map.mp hl
  obtain ⟨xs, hxs, e⟩ := List.mem_filterMap.mp hx
  exact ⟨t, List.mem_range.mp ht, xs, hxs, e⟩
theorem byTurn_nodup {xss : List (List Nat)} (nd : xss.flatten.Nodup) : ∀ T, (byTurn xss T).Nodup
  | 0 => List.nodup_nil
  | T + 1 => by
    rw [byTurn_succ, List.nodup_append]
    refine ⟨byTurn_nodup nd T, turn_nodup nd T, fun a ha b hb e => ?_⟩
    subst e
    obtain ⟨t, ht, xs, hxs, e1⟩ := byTurn_mem ha
    obtain ⟨ys, hys, e2⟩ := List.mem_filterMap.mp hb
    have := row_unique nd hxs hys (List.mem_of_getElem? e1) (List.mem_of_getElem? e2)
    subst this
    have nx : xs.Nodup := nd.sublist (List.sublist_flatten_of_mem hxs)
    have := nodup_get nx e1 e2
    omega
theorem byTurn_sub {xss : List (List Nat)} {T x : Nat} (h : x ∈ byTurn xss T) : x ∈ xss.flatten := by
  obtain ⟨t, _, xs, hxs, e⟩ := byTurn_mem h
  exact List.mem_flatten.mpr ⟨xs, hxs, List.mem_of_getElem? e⟩
/-! ### obstacles -/
def fcGo (g : PF) (d : Nat) : List Nat → (Nat → Nat) → Option Nat
  | [], _ => none
  | L :: r, u => if 0 < ((((g L).getD 0 : Nat) : Int) - (u L : Int)) % (d : Int) ∧ 1 < L then
      (if (((g (L - 1)).getD 0 : Nat) : Int) < (d : Int) - ((((g L).getD 0 : Nat) : Int) - (u L : Int)) % (d : Int) then some L
        else fcGo g d r fun z => if z = L - 1 then ((d : Int) - ((((g L).getD 0 : Nat) : Int) - (u L : Int)) % (d : Int)).toNat else u z)
    else fcGo g d r u
def obsF (ls ks : List Nat) (d : Nat) : Option (Bool × Nat) := match (arr 13 (cf ls)).find? (fun p => decide (p.2 % gsz p.1 d ≠ 0)) with
  | some p => some (true, p.1)
  | none => (fcGo (cf ks) d ((arr 13 (cf ks)).map (·.1)).reverse fun _ => 0).map fun L => (false, L)
theorem obsF_none {ls ks : List Nat} {d : Nat} (h : obsF ls ks d = none) {L : Nat} (hL : L ∈ ls) (h13 : L < 13) : ls.count L % gsz L d = 0 := by
  unfold obsF at h
  split at h
  · cases h
  · rename_i e
    rw [List.find?_eq_none] at e
    have hc := List.count_pos_iff.mpr hL
    have := e (L, ls.count L) (arr_mem.mpr ⟨h13, cf_some.mpr ⟨rfl, by omega⟩⟩)
    simpa using this
theorem obsF_perm {ls ls' ks ks' : List Nat} (h1 : ls.Perm ls') (h2 : ks.Perm ks') (d : Nat) : obsF ls ks d = obsF ls' ks' d := by
  unfold obsF
  rw [cf_perm h1, cf_perm h2]
end CM
namespace CM
theorem places_all {g L d : Nat} (inj : posB g L d = true) (hN : 0 < g * L) {q : Nat} (hq : q < g * L) : ∃ s t, s < g ∧ t < L ∧ (s + t * d) % (g * L) = q := by
  have nd : ((List.range g).flatMap fun s => (List.range L).map fun t => (s + t * d) % (g * L)).Nodup := by
    unfold List.flatMap
    refine flat_nodup (fun l hl => ?_) ?_
    · obtain ⟨s, hs, rfl⟩ := List.mem_map.mp hl
      refine nodup_map_on List.nodup_range fun t ht t' ht' e => ?_
      exact (posB_inj inj (List.mem_range.mp hs) (List.mem_range.mp ht) (List.mem_range.mp hs) (List.mem_range.mp ht') e).2
    · rw [List.pairwise_map]
      refine List.Pairwise.imp_of_mem (R := fun a b => a ≠ b) (fun {s s'} hs hs' hne x hx y hy e => ?_) List.nodup_range
      obtain ⟨t, ht, rfl⟩ := List.mem_map.mp hx
      obtain ⟨t', ht', rfl⟩ := List.mem_map.mp hy
      exact hne (posB_inj inj (List.mem_range.mp hs) (List.mem_range.mp ht) (List.mem_range.mp hs') (List.mem_range.mp ht') e).1
  have lt : ∀ x ∈ ((List.range g).flatMap fun s => (List.range L).map fun t => (s + t * d) % (g * L)), x < g * L := fun x hx => by
    obtain ⟨s, _, h⟩ := List.mem_flatMap.mp hx
    obtain ⟨t, _, rfl⟩ := List.mem_map.mp h
    exact Nat.mod_lt _ hN
  have len : ((List.range g).flatMap fun s => (List.range L).map fun t => (s + t * d) % (g * L)).length = g * L := by
    rw [List.length_flatMap]
    have : (List.range g).map (fun s => ((List.range L).map fun t => (s + t * d) % (g * L)).length) = (List.range g).map fun _ => L := List.map_congr_left fun s _ => by rw [List.length_map, List.length_range]
    rw [this, sum_map_const, List.length_range]
  have p := perm_range nd lt len
  obtain ⟨s, hs, h⟩ := List.mem_flatMap.mp (p.mem_iff.mpr (List.mem_range.mpr hq))
  obtain ⟨t, ht, e⟩ := List.mem_map.mp h
  exact ⟨s, t, List.mem_range.mp hs, List.mem_range.mp ht, e⟩
theorem find_at {α : Type} {p : α → Bool} : ∀ {l : List α} {i : Nat} {a : α}, l[i]? = some a → (∀ b ∈ l.take i, p b = false) → p a = true → l.find? p = some a
  | [], i, a, e, _, _ => by simp at e
  | b :: l, 0, a, e, _, h => by
    have e : some b = some a := e
    cases e
    rw [List.find?_cons_of_pos h]
  | b :: l, i + 1, a, e, hn, h => by
    have hb : p b = false := hn b (by rw [List.take_succ_cons]; exact List.mem_cons_self)
    rw [List.find?_cons_of_neg (by rw [hb]; exact Bool.false_ne_true)]
    exact find_at (l := l) e (fun c hc => hn c (by rw [List.take_succ_cons]; exact List.mem_cons_of_mem _ hc)) h
end CM
namespace CM
theorem nodup_of_get {α : Type} {l : List α} (h : ∀ (i j : Nat) (x : α), l[i]? = some x → l[j]? = some x → i = j) : l.Nodup := by
  rw [List.Nodup, List.pairwise_iff_getElem]
  intro i j hi hj hij e
  have := h i j l[i] (List.getElem?_eq_getElem hi) (by rw [List.getElem?_eq_getElem hj, e])
  omega
end CM
end

section
set_option linter.all false
/-! M8: how many roots. Plain Lean. -/
namespace CM
def ccT (L d : Nat) (ws : List Nat) (s : Nat) : Nat → Nat
  | 0 => 0
  | k + 1 => ccT L d ws s k + (if d % (k + 1) = 0 ∧ Nat.gcd (L * (k + 1)) d = k + 1 then chN (s - 1) k * (fac k * L ^ k) * ws.getD (s - (k + 1)) 0 else 0)
def ccW (L d : Nat) : Nat → List Nat
  | 0 => [1]
  | s + 1 => ccW L d s ++ [ccT L d (ccW L d s) (s + 1) (s + 1)]
theorem ccW_len (L d : Nat) : ∀ s, (ccW L d s).length = s + 1
  | 0 => rfl
  | s + 1 => by rw [ccW, List.length_append, ccW_len L d s]; rfl
def ccr (L m d : Nat) : Nat := (ccW L d m).getD m 0
theorem ccr_small : ∀ d ∈ degs, ∀ L, L ≤ 12 → ∀ m, m ≤ 12 → L * m ≤ 12 → ccr L m d ≤ 2 ^ (5 * (L * m)) := by decide +kernel
theorem merged_small : ∀ L, L ≤ 12 → ∀ k, k ≤ 11 → L * (k + 1) ≤ 12 → fac k * L ^ k < 2 ^ 30 := by decide +kernel
theorem ch_small : ∀ s, s ≤ 12 → ∀ t, t ≤ 12 → chN s t < 1000 := by decide +kernel
theorem fac6 : ∀ k, k ≤ 6 → fac k ≤ 720 := by decide +kernel
/-! chains -/
def cL (c : PF) (L : Nat) : Nat := if 2 ≤ L then (c (L - 2)).getD 0 else 0
def sL (c : PF) : Nat → Nat
  | 0 => 0
  | 1 => 0
  | L + 2 => sL c (L + 1) + (c L).getD 0
def mu (c : PF) (L h b : Nat) : Nat := h + b + sL c L + L
def rsF (d L s : Nat) : Nat := if 1 < L then d - s else 0
def trm (W : Nat → Nat → Nat → Nat) (d L h b s : Nat) : Nat := if rsF d L s ≤ b then chN (h - 1) (s - 1) * fac s * (chN b (rsF d L s) * fac (rsF d L s)) * W L (h - s) (b - rsF d L s) else 0
def sumT (W : Nat → Nat → Nat → Nat) (d L h b : Nat) : Nat → Nat
  | 0 => 0
  | k + 1 => sumT W d L h b k + trm W d L h b (k + 1)
def Wf (c : PF) (d : Nat) : Nat → Nat → Nat → Nat → Nat
  | 0, _, _, _ => 1
  | k + 1, L, h, b => if L = 0 then 1 else if h = 0 then Wf c d k (L - 1) b (cL c L) else sumT (Wf c d k) d L h b (min h d)
theorem sumT_congr {W W' : Nat → Nat → Nat → Nat} {d L h b : Nat} : ∀ {k : Nat}, (∀ s, 1 ≤ s → s ≤ k → rsF d L s ≤ b → W L (h - s) (b - rsF d L s) = W' L (h - s) (b - rsF d L s)) → sumT W d L h b k = sumT W' d L h b k
  | 0, _ => rfl
  | k + 1, hk => by
    unfold sumT
    rw [sumT_congr (k := k) fun s h1 h2 => hk s h1 (by omega)]
    congr 1
    unfold trm
    by_cases e : rsF d L (k + 1) ≤ b
    · rw [if_pos e, if_pos e, hk (k + 1) (by omega) (Nat.le_refl _) e]
    · rw [if_neg e, if_neg e]
theorem mu_down {c : PF} {L b : Nat} (hL : L ≠ 0) : mu c (L - 1) b (cL c L) + 1 = mu c L 0 b := by
  unfold mu cL
  match L, hL with
  | 1, _ => simp [sL]
  | L + 2, _ =>
    rw [if_pos (by omega)]
    show b + (c (L + 2 - 2)).getD 0 + sL c (L + 2 - 1) + (L + 2 - 1) + 1 = 0 + b + sL c (L + 2) + (L + 2)
    rw [show L + 2 - 2 = L by omega, show L + 2 - 1 = L + 1 by omega, sL]
    omega
theorem Wf_step (c : PF) (d : Nat) : ∀ k L h b, mu c L h b < k → Wf c d (k + 1) L h b = Wf c d k L h b
  | 0, _, _, _, hk => absurd hk (Nat.not_lt_zero _)
  | k + 1, L, h, b, hk => by
    show (if L = 0 then 1 else if h = 0 then Wf c d (k + 1) (L - 1) b (cL c L) else sumT (Wf c d (k + 1)) d L h b (min h d)) = (if L = 0 then 1 else if h = 0 then Wf c d k (L - 1) b (cL c L) else sumT (Wf c d k) d L h b (min h d))
    by_cases e1 : L = 0
    · rw [if_pos e1, if_pos e1]
    · rw [if_neg e1, if_neg e1]
      by_cases e2 : h = 0
      · rw [if_pos e2, if_pos e2]
        subst e2
        have := mu_down (c := c) (b := b) e1
        exact Wf_step c d k _ _ _ (by omega)
      · rw [if_neg e2, if_neg e2]
        refine sumT_congr fun s h1 h2 h3 => Wf_step c d k _ _ _ ?_
        unfold mu at hk ⊢
        have : s ≤ h := by omega
        omega
def Wy (c : PF) (d L h b : Nat) : Nat := Wf c d (mu c L h b + 1) L h b
theorem Wf_eq (c : PF) (d : Nat) {L h b : Nat} : ∀ {k}, mu c L h b < k → Wf c d k L h b = Wy c d L h b
  | k + 1, hk => by
    by_cases e : mu c L h b = k
    · rw [← e]; rfl
    · rw [Wf_step c d k L h b (by omega)]
      exact Wf_eq c d (by omega)
theorem Wy_zero (c : PF) (d h b : Nat) : Wy c d 0 h b = 1 := by unfold Wy; rw [Wf, if_pos rfl]
theorem Wy_down (c : PF) (d : Nat) {L b : Nat} (hL : L ≠ 0) : Wy c d L 0 b = Wy c d (L - 1) b (cL c L) := by
  have e : Wy c d L 0 b = Wf c d (mu c L 0 b) (L - 1) b (cL c L) := by
    unfold Wy; rw [Wf, if_neg hL, if_pos rfl]
  rw [e]
  exact Wf_eq c d (by have := mu_down (c := c) (b := b) hL; omega)
theorem Wy_first (c : PF) (d : Nat) {L h b : Nat} (hL : L ≠ 0) (hh : h ≠ 0) : Wy c d L h b = sumT (Wy c d) d L h b (min h d) := by
  have e : Wy c d L h b = sumT (Wf c d (mu c L h b)) d L h b (min h d) := by
    unfold Wy; rw [Wf, if_neg hL, if_neg hh]
  rw [e]
  refine sumT_congr fun s h1 h2 h3 => Wf_eq c d ?_
  unfold mu
  have : s ≤ h := by omega
  omega
theorem sL_le (ks : List Nat) : ∀ L, sL (cf ks) L ≤ ks.length := fun L => by
  have h : ∀ L, sL (cf ks) (L + 1) = (ks.filter fun k => decide (k < L)).length := fun L => by
    induction L with
    | zero => show 0 = _; rw [List.filter_eq_nil_iff.mpr fun a _ => by simp]; rfl
    | succ L ih =>
      rw [sL, ih, count_getD]
      clear ih
      induction ks with
      | nil => rfl
      | cons a ks ih =>
        rw [List.filter_cons, List.filter_cons, List.count_cons]
        by_cases h1 : a < L
        · have e1 : decide (a < L) = true := decide_eq_true h1
          have e2 : decide (a < L + 1) = true := decide_eq_true (by omega)
          have e3 : (a == L) = false := by simp; omega
          rw [e1, e2, e3, if_pos rfl, if_pos rfl, List.length_cons, List.length_cons, if_neg (by decide)]; omega
        · have e1 : decide (a < L) = false := decide_eq_false h1
          by_cases h2 : a = L
          · have e2 : decide (a < L + 1) = true := decide_eq_true (by omega)
            have e3 : (a == L) = true := by simp [h2]
            rw [e1, e2, e3, if_neg (by decide), if_pos rfl, if_pos rfl, List.length_cons]; omega
          · have e2 : decide (a < L + 1) = false := decide_eq_false (by omega)
            have e3 : (a == L) = false := by simp [h2]
            rw [e1, e2, e3, if_neg (by decide), if_neg (by decide), if_neg (by decide)]; omega
  cases L with
  | zero => exact Nat.zero_le _
  | succ L => rw [h]; exact List.length_filter_le _ _
/-- all the ways for a shape's chains -/
def crt (ls ks : List Nat) (d : Nat) : Nat :=
  (arr 13 (cf ls)).foldl (fun a p => a * ccr p.1 p.2 d) 1 * Wy (cf ks) d (((arr 13 (cf ks)).map (·.1)).foldl max 0) ((cf ks (((arr 13 (cf ks)).map (·.1)).foldl max 0)).getD 0) ((if 1 ≤ ((arr 13 (cf ks)).map (·.1)).foldl max 0 then cf ks (((arr 13 (cf ks)).map (·.1)).foldl max 0 - 1) else none).getD 0)
theorem crt_perm {ls ls' ks ks' : List Nat} (h1 : ls.Perm ls') (h2 : ks.Perm ks') (d : Nat) : crt ls ks d = crt ls' ks' d := by
  unfold crt
  rw [cf_perm h1, cf_perm h2]
end CM
end

section
set_option Elab.async false
set_option linter.all false
set_option maxRecDepth 100000
set_option maxHeartbeats 4000000
/-! W0: one form for all promises, the rules for calls by it. -/
namespace K35
open PySem PySem.Spec PyProof.Rows L2
/-- what the head tells -/
structure Txt (K : PySem.W.Frag) (mg : Str → Option Value) (base : Heap) : Prop where
  c : Says K
  I : K.In base
  G : base.Ns mainGlobals mg
/-- the def at a keeps the promise sp -/
def Okd (P : Program) (w : World) (K : PySem.W.Frag) (mg : Str → Option Value) (base : Heap) (k : Nat) (a : Addr) (sp : Sp) : Prop :=
  ∃ fd ps, FnOk P w K mg base CX0 k a fd ps sp ∧ Binds K fd ps [] ∧ PySem.W.keepIn K (.ref a) = true
theorem p0 {X : Cx} {E : XK} : Passes CX0 X E := fun _ _ _ _ _ _ _ h => h.elim
section
variable {P : Program} {w : World} {K : PySem.W.Frag} {mg : Str → Option Value} {base : Heap}
theorem okd {d : He5.DefA} {N ps : List Str} {k : Nat} {sp : Sp} (T : Txt K mg base) (i : Nat) (h : fnL[i]? = some d) (h1 : d.dvs K = []) (S : FnScope N ps d.scope)
    (bnd : ∀ (kV doc pm : Value) (an : Option Addr) (cdv ct : Value) (us : List Value), us.length = ps.length → bindArgs (PySem.W.fnOf d.name d.qual d.params d.body d.scope .none kV doc pm an cdv ct) ⟨us, []⟩ = pure (ps.zip us))
    (len : ∀ vs H Q E, sp vs H Q E → vs.length = ps.length)
    (hbody : ∀ (cdv : Value) (A : Around) (outer : List Env) (s : Shared) (H : Hp) (vs : List V) (Q : VK) (E : XK), Room k (A.deeper (envOfC d.qual d.scope s.heap.objs.size (d.at_ K) cdv)) → sp vs H Q E →
      ∃ t, PSs (cxOf CX0 P w K mg base N d.qual d.scope (d.at_ K) cdv A outer s H E).nox d.body t ∧ t { nx := fun _ H' => Q .non H', rt := Q } (start N vs) H) : Okd P w K mg base (k + 1) (d.at_ K) sp := by
  obtain ⟨fd, F⟩ := T.c.a.def_ i (d := d) h
  rw [h1] at F
  exact ⟨fd, ps, F.ok S len fun cdv A outer s H vs Q E hr h => let ⟨t, h1, h2⟩ := hbody cdv A outer s H vs Q E hr h; ⟨t, PSs.nox h1, h2⟩, F.bindsN bnd, F.kp⟩
theorem Okd.imp {k : Nat} {a : Addr} {sp sp' : Sp} (D : Okd P w K mg base k a sp) (h : ∀ vs H Q E, sp' vs H Q E → sp vs H Q E) : Okd P w K mg base k a sp' := by
  obtain ⟨fd, ps, F, b, kp⟩ := D
  exact ⟨fd, ps, F.imp h, b, kp⟩
theorem Okd.mono {j k : Nat} {a : Addr} {sp : Sp} (D : Okd P w K mg base j a sp) (h : j ≤ k) : Okd P w K mg base k a sp := by
  obtain ⟨fd, ps, F, b, kp⟩ := D
  exact ⟨fd, ps, F.mono h, b, kp⟩
end
/-- f(..), C.f(..): what its promise asks -/
def tF (sp : Sp) (t : TA) : TE := fun σ H Q => t σ H fun vs H1 => sp vs H1 Q E0
def tM (C : Addr) (m : Str) (sp : Sp) (ta : TE) (t : TA) : TE := fun σ H Q => ta σ H fun x H1 => ∃ a dx fs, x = .ref a ∧ H1 a = some (.ins C dx fs) ∧ fs.lookup m = none ∧ t σ H1 fun vs H2 => sp (x :: vs) H2 Q E0
def tMk (sp : Sp) (C : Addr) (t : TA) : TE := fun σ H Q => t σ H fun vs H1 => ∀ x dx, H1 x = none → H1 dx = none → dx ≠ x →
  sp (.ref x :: vs) (upd (upd H1 dx (.own x)) x (.ins C dx [])) (fun v H2 => v = .non ∧ Q (.ref x) H2) E0
def tMkL (i : Nat) (sp : Sp) (C : Addr) (t : TA) : TE := fun σ H Q => σ[i]? = some (some (.ref C)) ∧ tMk sp C t σ H Q
/-- o.f by a property -/
def tPr (C : Addr) (sp : Sp) (ta : TE) : TE := fun σ H Q => ta σ H fun x H1 => ∃ a dx fs, x = .ref a ∧ H1 a = some (.ins C dx fs) ∧ sp [.ref a] H1 Q E0
/-- x op y by an own def -/
def rO (C : Addr) (sp : Sp) : R2 := fun x y H Q => ∃ a b dx dy fs gs, x = .ref a ∧ y = .ref b ∧ H a = some (.ins C dx fs) ∧ H b = some (.ins C dy gs) ∧ sp [.ref a, .ref b] H Q E0
section
variable {X : Cx} {k : Nat} {f C g p : Addr} {sp : Sp} {x m : Str} {np pos apos : Pos} {o e i : Expr} {es : List Expr} {ta ti : TE} {t : TA}
theorem pe_cD (D : Okd X.prog X.w X.K X.mg X.base k f sp) (hr : Room k X.A) (hm : X.mg x = some (.ref f)) (ha : PA X (e :: es) t) (hg : Gl X x := by rfl) (hdb : (x == ("__debug__" : Str)) = false := by decide)
    (he : starEach (e :: es) X.env = (false, eval e X.env) :: starEach es X.env := by rfl) (hpl : (backTo pos (starEach es X.env)).any (·.1) = false := by rfl) : PE X (.Call (.Name x np) (e :: es) [] pos) (tF sp t) := by
  obtain ⟨fd, ps, F, b, kp⟩ := D
  have h := pe_call (dvs := []) (E := E0) (p := np) (pos := pos) F hr hg hm kp b .nil p0 ha hdb he hpl
  refine ⟨fun pins s σ H Q I q => h.run pins s σ H Q I ?_⟩
  have e1 : tCall sp [] E0 t σ H Q = tF sp t σ H Q := by
    unfold tCall tF
    simp only [List.append_nil]
  rw [e1]; exact q
theorem pe_mD {pl : Sem Bool} (D : Okd X.prog X.w X.K X.mg X.base k f sp) (hr : Room k X.A) (c : Cls X.K C) (hm : Meth X.K C m f) (he : PE X o ta) (ha : PA X (e :: es) t)
    (hst : starEach (e :: es) X.env = (false, eval e X.env) :: starEach es X.env := by rfl) (hpl : (backTo pos (starEach es X.env)).any (·.1) = false := by rfl)
    (ht : eval (.Call (.Attribute o m apos) (e :: es) [] pos) X.env = (do
      let ov ← eval o X.env
      standAt apos.atName
      let (f, first) ← holding [ov] (getMethod ov m pl)
      callWith pos f first (backTo pos (starEach (e :: es) X.env)) (backToKw pos (keywordEach [] X.env))) := by rfl) :
    PE X (.Call (.Attribute o m apos) (e :: es) [] pos) (tM C m sp ta t) := by
  obtain ⟨fd, ps, F, b, kp⟩ := D
  have h := pe_meth (dvs := []) (E := E0) (apos := apos) (pos := pos) he c hm F hr b .nil p0 ha hst hpl ht
  refine ⟨fun pins s σ H Q I q => h.run pins s σ H Q I ?_⟩
  have e1 : tMeth C m sp [] E0 ta t σ H Q = tM C m sp ta t σ H Q := by
    unfold tMeth tM
    simp only [List.append_nil]
  rw [e1]; exact q
theorem pe_mkD (D : Okd X.prog X.w X.K X.mg X.base k f sp) (M : Mk X.K C f) (hr : Room (k + 1) X.A) (hm : X.mg x = some (.ref C)) (ha : PA X (e :: es) t) (hg : Gl X x := by rfl) (hdb : (x == ("__debug__" : Str)) = false := by decide)
    (he : starEach (e :: es) X.env = (false, eval e X.env) :: starEach es X.env := by rfl) (hpl : (backTo pos (starEach es X.env)).any (·.1) = false := by rfl) : PE X (.Call (.Name x np) (e :: es) [] pos) (tMk sp C t) := by
  obtain ⟨fd, ps, F, b, kp⟩ := D
  have h := pe_make (dvs := []) (E := E0) (p := np) (pos := pos) M F hr hg hm b .nil p0 ha hdb he hpl
  refine ⟨fun pins s σ H Q I q => h.run pins s σ H Q I ?_⟩
  have e1 : tMake C sp [] E0 t σ H Q = tMk sp C t σ H Q := by
    unfold tMake tMk
    simp only [List.append_nil]
  rw [e1]; exact q
theorem pe_mkLD {j : Nat} (D : Okd X.prog X.w X.K X.mg X.base k f sp) (M : Mk X.K C f) (hr : Room (k + 1) X.A) (hN : X.N[j]? = some x) (hv : Vis X.env.scope x) (ha : PA X (e :: es) t) (hdb : (x == ("__debug__" : Str)) = false := by decide) (hcd : (x == ("__classdict__" : Str)) = false := by decide)
    (he : starEach (e :: es) X.env = (false, eval e X.env) :: starEach es X.env := by rfl) (hpl : (backTo pos (starEach es X.env)).any (·.1) = false := by rfl) : PE X (.Call (.Name x np) (e :: es) [] pos) (tMkL j sp C t) := by
  obtain ⟨fd, ps, F, b, kp⟩ := D
  exact pe_makeL (E := E0) (p := np) (pos := pos) M F hr hN hv b p0 ha hdb hcd he hpl
theorem pe_prD (D : Okd X.prog X.w X.K X.mg X.base k f sp) (hr : Room (k + 1) X.A) (c : Cls X.K C) (hp : PropOf X.K C m p f) (he : PE X e ta) (hab : attributeBase e m X.env (eval e X.env) = eval e X.env := by rfl) : PE X (.Attribute e m pos) (tPr C sp ta) := by
  obtain ⟨fd, ps, F, b, kp⟩ := D
  exact pe_prop (dvs := []) (E := E0) he c hp F hr b .nil (fun _ _ _ _ _ _ _ h => h.elim) hab
theorem op_oD {op : Operator} (D : Okd X.prog X.w X.K X.mg X.base k f sp) (hr : Room k X.A) (sf : PySem.W.selfFirst X.K C = true) (hm : Meth X.K C (PySem.dunder op.info.2) f) : OpR X (binaryOp op) (rO C sp) := by
  obtain ⟨fd, ps, F, b, kp⟩ := D
  exact op_own F hr b p0 sf hm.at_ hm.fn
theorem cmp_oD {op : CmpOp} (D : Okd X.prog X.w X.K X.mg X.base k f sp) (hr : Room k X.A) (hm : Meth X.K C (cmpInfo op).2.1 f) (ho : ∀ v u, compareOp op v u = richCompare op v u := by intro _ _; rfl) : OpR X (compareOp op) (rO C sp) := by
  obtain ⟨fd, ps, F, b, kp⟩ := D
  exact cmp_own F hr b p0 hm.at_ hm.fn ho
theorem un_oD (D : Okd X.prog X.w X.K X.mg X.base k f sp) (hr : Room k X.A) (hm : Meth X.K C "__invert__" f) : UnR X (unaryOp .Invert) (fun x H Q => ∃ a dx fs, x = .ref a ∧ H a = some (.ins C dx fs) ∧ sp [.ref a] H Q E0) := by
  obtain ⟨fd, ps, F, b, kp⟩ := D
  exact un_own F hr b p0 hm.at_ hm.fn
theorem len_oD (D : Okd X.prog X.w X.K X.mg X.base k f sp) (hr : Room (k + 1) X.A) (hm : Meth X.K C "__len__" f) :
    CallR X (.builtin "len") (fun xs H Q => ∃ a dx fs, xs = [.ref a] ∧ H a = some (.ins C dx fs) ∧ sp [.ref a] H (fun v H' => ∃ n : Int, v = .int n ∧ 0 ≤ n ∧ n < 2 ^ 63 ∧ Q (.int n) H') E0) := by
  obtain ⟨fd, ps, F, b, kp⟩ := D
  exact len_own F hr b p0 hm.at_ hm.fn
theorem pe_subD (D : Okd X.prog X.w X.K X.mg X.base k f sp) (hr : Room (k + 1) X.A) (hm : Meth X.K C "__getitem__" f) (hf : PySem.W.fnIn X.K f = true) (ho : PE X o ta) (hi : PE X i ti)
    (hsl : ∀ v u, subscripted i true v u = runValue (.builtin "lifetime.subscript" ⟨[v, u], []⟩) := by intro _ _; rfl) :
    PE X (.Subscript o i pos) (tOp (fun x y H Q => ∃ a dx fs, x = .ref a ∧ H a = some (.ins C dx fs) ∧ sp [.ref a, y] H Q E0) ta ti) := by
  obtain ⟨fd, ps, F, b, kp⟩ := D
  exact pe_sub_own F hr b p0 hm.at_ hf hm.fn ho hi hsl
theorem ne_oD (D : Okd X.prog X.w X.K X.mg X.base k f sp) (hr : Room (k + 1) X.A) (hn : PySem.W.findIn X.K (.ref C) "__ne__" = some (some (.builtin "object.__ne__"))) (hm : Meth X.K C "__eq__" f) (hmr : PySem.W.mroIn X.K C (.type "object") = some true) :
    OpR X (compareOp .NotEq) (fun x y H Q => ∃ a b dx dy fs gs, x = .ref a ∧ y = .ref b ∧ H a = some (.ins C dx fs) ∧ H b = some (.ins C dy gs) ∧ sp [.ref a, .ref b] H (fun v H' => ∃ c, v = .bl c ∧ Q (.bl (!c)) H') E0) := by
  obtain ⟨fd, ps, F, b, kp⟩ := D
  exact ne_own F hr b p0 hn hm.at_ hm.fn hmr
/-- C.m(..), a classmethod -/
def tCm (C : Addr) (sp : Sp) (t : TA) : TE := fun σ H Q => t σ H fun vs H1 => sp (.ref C :: vs) H1 Q E0
theorem pe_cmD {pl : Sem Bool} {mc : Value} (D : Okd X.prog X.w X.K X.mg X.base k g sp) (hr : Room k X.A) (hg : Gl X x) (hm : X.mg x = some (.ref C)) (r : ClX.CRead X.K C mc) (c : ClX.CMet X.K C mc m p g) (ha : PA X (e :: es) t) (hdb : (x == ("__debug__" : Str)) = false := by decide)
    (hst : starEach (e :: es) X.env = (false, eval e X.env) :: starEach es X.env := by rfl) (hpl : (backTo pos (starEach es X.env)).any (·.1) = false := by rfl)
    (ht : eval (.Call (.Attribute (.Name x np) m apos) (e :: es) [] pos) X.env = (do
      let ov ← eval (.Name x np) X.env
      standAt apos.atName
      let (f, first) ← holding [ov] (getMethod ov m pl)
      callWith pos f first (backTo pos (starEach (e :: es) X.env)) (backToKw pos (keywordEach [] X.env))) := by rfl) :
    PE X (.Call (.Attribute (.Name x np) m apos) (e :: es) [] pos) (tCm C sp t) := by
  obtain ⟨fd, ps, F, b, kp⟩ := D
  have F' := F.raw b .nil
  have h := ClX.pe_cmeth (E := E0) (apos := apos) (pos := pos) (pe_glob hg hm (v := .ref C) rfl hdb) r c F' hr p0 ha hst hpl ht
  refine ⟨fun pins s σ H Q I q => h.run pins s σ H Q I ?_⟩
  refine ⟨rfl, ?_⟩
  have e1 : (fun (vs : List V) (H2 : Hp) => sp ((V.ref C :: vs) ++ []) H2 Q E0) = fun vs H2 => sp (V.ref C :: vs) H2 Q E0 := by
    funext vs H2
    rw [List.append_nil]
  show t σ H (fun vs H2 => sp ((V.ref C :: vs) ++ []) H2 Q E0)
  rw [e1]; exact q
end
/-! the rules whose readings name the frame's written part, with its own name (for use within comprehensions) -/
section
variable {X : Cx} {K : PySem.W.Frag}
theorem pgK_tup {es : List Expr} {k : Nat} {t : TGs} {n : Nat} {pos : Pos} (e : X.K = K) (hc : X.calm = true) (h : PGs X es t)
    (hn : (assignEach es X.env).length = n := by rfl) (hst : (assignEach es X.env).findIdx? (·.1) = none := by rfl) : PG X (.Tuple es k pos) (gTup K n t) := by
  subst e
  exact pg_tup hc h hn hst
theorem ixK_list (e : X.K = K) : IxR X (rIxL K) := by subst e; exact ix_list
theorem ixK_tup (e : X.K = K) : IxR X (rIxT K) := by subst e; exact ix_tup
theorem lenK_seq (e : X.K = K) : CallR X (.builtin "len") (fun xs H Q => ∃ p ys, xs = [.ref p] ∧ (SqL K H p ys ∨ SqT K H p ys) ∧ Q (.int ys.length) H) := by subst e; exact call_len_seq
theorem slK_tup (e : X.K = K) : SlR X (rSlT K) := by subst e; exact sl_tup
theorem slK_list (e : X.K = K) : SlR X (rSlL K) := by subst e; exact sl_list
theorem opK_catT (e : X.K = K) : OpR X (binaryOp .Add) (rCatT K) := by subst e; exact op_catT
theorem piK_list {tg l : Expr} {tl : TE} (e : X.K = K) (hl : PE X l tl) : PI X tg l (iList K tl) := by subst e; exact pi_list hl
theorem piK_tup {tg l : Expr} {tl : TE} (e : X.K = K) (hl : PE X l tl) : PI X tg l (iTup K tl) := by subst e; exact pi_tup hl
theorem pe_tupleOfK {a : Expr} {ta : TE} {p pos : Pos} (e : X.K = K) (hg : Gl X "tuple") (hm : X.mg "tuple" = none) (ha : PE X a ta) (na : starEach [a] X.env = (false, eval a X.env) :: starEach [] X.env := by rfl) :
    PE X (.Call (.Name "tuple" p) [a] [] pos) (tThen ta (kTup K)) := by subst e; exact pe_tupleOf hg hm ha na
end
end K35
end

section
set_option Elab.async false
set_option linter.all false
set_option maxRecDepth 100000
set_option maxHeartbeats 4000000
/-! K8: the facts by names, the defs' scopes (printed by gw.py). -/
namespace K35
open PySem PySem.Spec PyProof.Rows L2
section
variable {K : PySem.W.Frag} {mg : Str → Option Value} {base : Heap}
abbrev C_Map (K : PySem.W.Frag) : Addr := He.ga K "Map"
abbrev C_Shape (K : PySem.W.Frag) : Addr := He.ga K "Shape"
abbrev C_ChainCounter (K : PySem.W.Frag) : Addr := He.ga K "ChainCounter"
theorem Txt.g_is_integer (T : Txt K mg base) : mg "is_integer" = some (.ref (He.ga K "is_integer")) := He.glo_ok T.I T.G (T.c.a.fact 0 (f := .glo "is_integer") rfl)
theorem Txt.g_in_range (T : Txt K mg base) : mg "in_range" = some (.ref (He.ga K "in_range")) := He.glo_ok T.I T.G (T.c.a.fact 2 (f := .glo "in_range") rfl)
theorem Txt.g_check_size (T : Txt K mg base) : mg "check_size" = some (.ref (He.ga K "check_size")) := He.glo_ok T.I T.G (T.c.a.fact 4 (f := .glo "check_size") rfl)
theorem Txt.g_check_elements (T : Txt K mg base) : mg "check_elements" = some (.ref (He.ga K "check_elements")) := He.glo_ok T.I T.G (T.c.a.fact 6 (f := .glo "check_elements") rfl)
theorem Txt.g_are_arrows (T : Txt K mg base) : mg "are_arrows" = some (.ref (He.ga K "are_arrows")) := He.glo_ok T.I T.G (T.c.a.fact 8 (f := .glo "are_arrows") rfl)
theorem Txt.g_common_size (T : Txt K mg base) : mg "common_size" = some (.ref (He.ga K "common_size")) := He.glo_ok T.I T.G (T.c.a.fact 10 (f := .glo "common_size") rfl)
theorem Txt.g_row_from (T : Txt K mg base) : mg "row_from" = some (.ref (He.ga K "row_from")) := He.glo_ok T.I T.G (T.c.a.fact 12 (f := .glo "row_from") rfl)
theorem Txt.g_moved (T : Txt K mg base) : mg "moved" = some (.ref (He.ga K "moved")) := He.glo_ok T.I T.G (T.c.a.fact 14 (f := .glo "moved") rfl)
theorem Txt.g_is_part (T : Txt K mg base) : mg "is_part" = some (.ref (He.ga K "is_part")) := He.glo_ok T.I T.G (T.c.a.fact 16 (f := .glo "is_part") rfl)
theorem Txt.g_check_map (T : Txt K mg base) : mg "check_map" = some (.ref (He.ga K "check_map")) := He.glo_ok T.I T.G (T.c.a.fact 18 (f := .glo "check_map") rfl)
theorem Txt.g_check_maps (T : Txt K mg base) : mg "check_maps" = some (.ref (He.ga K "check_maps")) := He.glo_ok T.I T.G (T.c.a.fact 20 (f := .glo "check_maps") rfl)
theorem Txt.g_greatest_divisor (T : Txt K mg base) : mg "greatest_divisor" = some (.ref (He.ga K "greatest_divisor")) := He.glo_ok T.I T.G (T.c.a.fact 22 (f := .glo "greatest_divisor") rfl)
theorem Txt.g_largest (T : Txt K mg base) : mg "largest" = some (.ref (He.ga K "largest")) := He.glo_ok T.I T.G (T.c.a.fact 24 (f := .glo "largest") rfl)
theorem Txt.g_factorial (T : Txt K mg base) : mg "factorial" = some (.ref (He.ga K "factorial")) := He.glo_ok T.I T.G (T.c.a.fact 26 (f := .glo "factorial") rfl)
theorem Txt.g_power_of (T : Txt K mg base) : mg "power_of" = some (.ref (He.ga K "power_of")) := He.glo_ok T.I T.G (T.c.a.fact 28 (f := .glo "power_of") rfl)
theorem Txt.g_parts_of (T : Txt K mg base) : mg "parts_of" = some (.ref (He.ga K "parts_of")) := He.glo_ok T.I T.G (T.c.a.fact 30 (f := .glo "parts_of") rfl)
theorem Txt.g_are_counts (T : Txt K mg base) : mg "are_counts" = some (.ref (He.ga K "are_counts")) := He.glo_ok T.I T.G (T.c.a.fact 32 (f := .glo "are_counts") rfl)
theorem Txt.g_ordered (T : Txt K mg base) : mg "ordered" = some (.ref (He.ga K "ordered")) := He.glo_ok T.I T.G (T.c.a.fact 34 (f := .glo "ordered") rfl)
theorem Txt.g_counts_of (T : Txt K mg base) : mg "counts_of" = some (.ref (He.ga K "counts_of")) := He.glo_ok T.I T.G (T.c.a.fact 36 (f := .glo "counts_of") rfl)
theorem Txt.g_shape_of (T : Txt K mg base) : mg "shape_of" = some (.ref (He.ga K "shape_of")) := He.glo_ok T.I T.G (T.c.a.fact 38 (f := .glo "shape_of") rfl)
theorem Txt.g_are_alike (T : Txt K mg base) : mg "are_alike" = some (.ref (He.ga K "are_alike")) := He.glo_ok T.I T.G (T.c.a.fact 40 (f := .glo "are_alike") rfl)
theorem Txt.g_by_length (T : Txt K mg base) : mg "by_length" = some (.ref (He.ga K "by_length")) := He.glo_ok T.I T.G (T.c.a.fact 42 (f := .glo "by_length") rfl)
theorem Txt.g_count_symmetries (T : Txt K mg base) : mg "count_symmetries" = some (.ref (He.ga K "count_symmetries")) := He.glo_ok T.I T.G (T.c.a.fact 44 (f := .glo "count_symmetries") rfl)
theorem Txt.g_is_renaming (T : Txt K mg base) : mg "is_renaming" = some (.ref (He.ga K "is_renaming")) := He.glo_ok T.I T.G (T.c.a.fact 46 (f := .glo "is_renaming") rfl)
theorem Txt.g_check_degree (T : Txt K mg base) : mg "check_degree" = some (.ref (He.ga K "check_degree")) := He.glo_ok T.I T.G (T.c.a.fact 48 (f := .glo "check_degree") rfl)
theorem Txt.g_group_size (T : Txt K mg base) : mg "group_size" = some (.ref (He.ga K "group_size")) := He.glo_ok T.I T.G (T.c.a.fact 50 (f := .glo "group_size") rfl)
theorem Txt.g_failing_chains (T : Txt K mg base) : mg "failing_chains" = some (.ref (He.ga K "failing_chains")) := He.glo_ok T.I T.G (T.c.a.fact 52 (f := .glo "failing_chains") rfl)
theorem Txt.g_obstacle_of (T : Txt K mg base) : mg "obstacle_of" = some (.ref (He.ga K "obstacle_of")) := He.glo_ok T.I T.G (T.c.a.fact 54 (f := .glo "obstacle_of") rfl)
theorem Txt.g_obstacle (T : Txt K mg base) : mg "obstacle" = some (.ref (He.ga K "obstacle")) := He.glo_ok T.I T.G (T.c.a.fact 56 (f := .glo "obstacle") rfl)
theorem Txt.g_cycle_root (T : Txt K mg base) : mg "cycle_root" = some (.ref (He.ga K "cycle_root")) := He.glo_ok T.I T.G (T.c.a.fact 58 (f := .glo "cycle_root") rfl)
theorem Txt.g_chain_root (T : Txt K mg base) : mg "chain_root" = some (.ref (He.ga K "chain_root")) := He.glo_ok T.I T.G (T.c.a.fact 60 (f := .glo "chain_root") rfl)
theorem Txt.g_chain_groups (T : Txt K mg base) : mg "chain_groups" = some (.ref (He.ga K "chain_groups")) := He.glo_ok T.I T.G (T.c.a.fact 62 (f := .glo "chain_groups") rfl)
theorem Txt.g_root (T : Txt K mg base) : mg "root" = some (.ref (He.ga K "root")) := He.glo_ok T.I T.G (T.c.a.fact 64 (f := .glo "root") rfl)
theorem Txt.g_choices (T : Txt K mg base) : mg "choices" = some (.ref (He.ga K "choices")) := He.glo_ok T.I T.G (T.c.a.fact 66 (f := .glo "choices") rfl)
theorem Txt.g_count_cycle_roots (T : Txt K mg base) : mg "count_cycle_roots" = some (.ref (He.ga K "count_cycle_roots")) := He.glo_ok T.I T.G (T.c.a.fact 68 (f := .glo "count_cycle_roots") rfl)
theorem Txt.g_count_roots (T : Txt K mg base) : mg "count_roots" = some (.ref (He.ga K "count_roots")) := He.glo_ok T.I T.G (T.c.a.fact 70 (f := .glo "count_roots") rfl)
theorem Txt.g_commute (T : Txt K mg base) : mg "commute" = some (.ref (He.ga K "commute")) := He.glo_ok T.I T.G (T.c.a.fact 72 (f := .glo "commute") rfl)
theorem Txt.g_count_commuting (T : Txt K mg base) : mg "count_commuting" = some (.ref (He.ga K "count_commuting")) := He.glo_ok T.I T.G (T.c.a.fact 74 (f := .glo "count_commuting") rfl)
theorem Txt.g_count_extensions (T : Txt K mg base) : mg "count_extensions" = some (.ref (He.ga K "count_extensions")) := He.glo_ok T.I T.G (T.c.a.fact 76 (f := .glo "count_extensions") rfl)
theorem Txt.g_common_multiple (T : Txt K mg base) : mg "common_multiple" = some (.ref (He.ga K "common_multiple")) := He.glo_ok T.I T.G (T.c.a.fact 78 (f := .glo "common_multiple") rfl)
theorem Txt.g_repetition_of (T : Txt K mg base) : mg "repetition_of" = some (.ref (He.ga K "repetition_of")) := He.glo_ok T.I T.G (T.c.a.fact 80 (f := .glo "repetition_of") rfl)
theorem Txt.g_repetition (T : Txt K mg base) : mg "repetition" = some (.ref (He.ga K "repetition")) := He.glo_ok T.I T.G (T.c.a.fact 82 (f := .glo "repetition") rfl)
theorem Txt.g_fate (T : Txt K mg base) : mg "fate" = some (.ref (He.ga K "fate")) := He.glo_ok T.I T.G (T.c.a.fact 84 (f := .glo "fate") rfl)
theorem Txt.g_is_step (T : Txt K mg base) : mg "is_step" = some (.ref (He.ga K "is_step")) := He.glo_ok T.I T.G (T.c.a.fact 86 (f := .glo "is_step") rfl)
theorem Txt.g_first_invalid (T : Txt K mg base) : mg "first_invalid" = some (.ref (He.ga K "first_invalid")) := He.glo_ok T.I T.G (T.c.a.fact 88 (f := .glo "first_invalid") rfl)
theorem Txt.g_after_list (T : Txt K mg base) : mg "after_list" = some (.ref (He.ga K "after_list")) := He.glo_ok T.I T.G (T.c.a.fact 90 (f := .glo "after_list") rfl)
theorem Txt.g_applied (T : Txt K mg base) : mg "applied" = some (.ref (He.ga K "applied")) := He.glo_ok T.I T.G (T.c.a.fact 92 (f := .glo "applied") rfl)
theorem Txt.g_link_of (T : Txt K mg base) : mg "link_of" = some (.ref (He.ga K "link_of")) := He.glo_ok T.I T.G (T.c.a.fact 94 (f := .glo "link_of") rfl)
theorem Txt.g_parts_between (T : Txt K mg base) : mg "parts_between" = some (.ref (He.ga K "parts_between")) := He.glo_ok T.I T.G (T.c.a.fact 96 (f := .glo "parts_between") rfl)
theorem Txt.g_distance (T : Txt K mg base) : mg "distance" = some (.ref (He.ga K "distance")) := He.glo_ok T.I T.G (T.c.a.fact 98 (f := .glo "distance") rfl)
theorem Txt.g_forgotten (T : Txt K mg base) : mg "forgotten" = some (.ref (He.ga K "forgotten")) := He.glo_ok T.I T.G (T.c.a.fact 100 (f := .glo "forgotten") rfl)
theorem Txt.g_swap_of (T : Txt K mg base) : mg "swap_of" = some (.ref (He.ga K "swap_of")) := He.glo_ok T.I T.G (T.c.a.fact 102 (f := .glo "swap_of") rfl)
theorem Txt.g_steps (T : Txt K mg base) : mg "steps" = some (.ref (He.ga K "steps")) := He.glo_ok T.I T.G (T.c.a.fact 104 (f := .glo "steps") rfl)
theorem Txt.g_next_steps (T : Txt K mg base) : mg "next_steps" = some (.ref (He.ga K "next_steps")) := He.glo_ok T.I T.G (T.c.a.fact 106 (f := .glo "next_steps") rfl)
theorem Txt.g_count_shortest (T : Txt K mg base) : mg "count_shortest" = some (.ref (He.ga K "count_shortest")) := He.glo_ok T.I T.G (T.c.a.fact 108 (f := .glo "count_shortest") rfl)
theorem Txt.g_law_hand (T : Txt K mg base) : mg "_law_hand" = some (.ref (He.ga K "_law_hand")) := He.glo_ok T.I T.G (T.c.a.fact 110 (f := .glo "_law_hand") rfl)
theorem Txt.g_law_draw (T : Txt K mg base) : mg "_law_draw" = some (.ref (He.ga K "_law_draw")) := He.glo_ok T.I T.G (T.c.a.fact 112 (f := .glo "_law_draw") rfl)
theorem Txt.g_law_arrows (T : Txt K mg base) : mg "_law_arrows" = some (.ref (He.ga K "_law_arrows")) := He.glo_ok T.I T.G (T.c.a.fact 114 (f := .glo "_law_arrows") rfl)
theorem Txt.g_law_full (T : Txt K mg base) : mg "_law_full" = some (.ref (He.ga K "_law_full")) := He.glo_ok T.I T.G (T.c.a.fact 116 (f := .glo "_law_full") rfl)
theorem Txt.g_law_same (T : Txt K mg base) : mg "_law_same" = some (.ref (He.ga K "_law_same")) := He.glo_ok T.I T.G (T.c.a.fact 118 (f := .glo "_law_same") rfl)
theorem Txt.g_law_single (T : Txt K mg base) : mg "_law_single" = some (.ref (He.ga K "_law_single")) := He.glo_ok T.I T.G (T.c.a.fact 120 (f := .glo "_law_single") rfl)
theorem Txt.g_law_steps (T : Txt K mg base) : mg "_law_steps" = some (.ref (He.ga K "_law_steps")) := He.glo_ok T.I T.G (T.c.a.fact 122 (f := .glo "_law_steps") rfl)
theorem Txt.g_law (T : Txt K mg base) : mg "law" = some (.ref (He.ga K "law")) := He.glo_ok T.I T.G (T.c.a.fact 124 (f := .glo "law") rfl)
theorem Txt.g_Map (T : Txt K mg base) : mg "Map" = some (.ref (He.ga K "Map")) := He.glo_ok T.I T.G (T.c.a.fact 126 (f := .glo "Map") rfl)
theorem Txt.cl_Map (T : Txt K mg base) : Cls K (C_Map K) := He.cls_ok (T.c.a.fact 127 (f := .cls "Map") rfl)
theorem Txt.mk_Map (T : Txt K mg base) : Mk K (C_Map K) (a_Map_init K) := He.mkr_ok (T.c.a.fact 128 (f := .mkr "Map") rfl)
theorem Txt.kp_Map (T : Txt K mg base) : PySem.W.keepIn K (.ref (C_Map K)) = true := He.keep_ok (T.c.a.fact 129 (f := .keep "Map") rfl)
theorem Txt.g_Shape (T : Txt K mg base) : mg "Shape" = some (.ref (He.ga K "Shape")) := He.glo_ok T.I T.G (T.c.a.fact 130 (f := .glo "Shape") rfl)
theorem Txt.cl_Shape (T : Txt K mg base) : Cls K (C_Shape K) := He.cls_ok (T.c.a.fact 131 (f := .cls "Shape") rfl)
theorem Txt.mk_Shape (T : Txt K mg base) : Mk K (C_Shape K) (a_Shape_init K) := He.mkr_ok (T.c.a.fact 132 (f := .mkr "Shape") rfl)
theorem Txt.kp_Shape (T : Txt K mg base) : PySem.W.keepIn K (.ref (C_Shape K)) = true := He.keep_ok (T.c.a.fact 133 (f := .keep "Shape") rfl)
theorem Txt.g_ChainCounter (T : Txt K mg base) : mg "ChainCounter" = some (.ref (He.ga K "ChainCounter")) := He.glo_ok T.I T.G (T.c.a.fact 134 (f := .glo "ChainCounter") rfl)
theorem Txt.cl_ChainCounter (T : Txt K mg base) : Cls K (C_ChainCounter K) := He.cls_ok (T.c.a.fact 135 (f := .cls "ChainCounter") rfl)
theorem Txt.mk_ChainCounter (T : Txt K mg base) : Mk K (C_ChainCounter K) (a_ChainCounter_init K) := He.mkr_ok (T.c.a.fact 136 (f := .mkr "ChainCounter") rfl)
theorem Txt.kp_ChainCounter (T : Txt K mg base) : PySem.W.keepIn K (.ref (C_ChainCounter K)) = true := He.keep_ok (T.c.a.fact 137 (f := .keep "ChainCounter") rfl)
theorem Txt.f_isinstance (T : Txt K mg base) : mg "isinstance" = none := He.free_ok T.I T.G (T.c.a.fact 138 (f := .free "isinstance") rfl)
theorem Txt.f_int (T : Txt K mg base) : mg "int" = none := He.free_ok T.I T.G (T.c.a.fact 139 (f := .free "int") rfl)
theorem Txt.f_bool (T : Txt K mg base) : mg "bool" = none := He.free_ok T.I T.G (T.c.a.fact 140 (f := .free "bool") rfl)
theorem Txt.f_dict (T : Txt K mg base) : mg "dict" = none := He.free_ok T.I T.G (T.c.a.fact 141 (f := .free "dict") rfl)
theorem Txt.f_range (T : Txt K mg base) : mg "range" = none := He.free_ok T.I T.G (T.c.a.fact 142 (f := .free "range") rfl)
theorem Txt.f_len (T : Txt K mg base) : mg "len" = none := He.free_ok T.I T.G (T.c.a.fact 143 (f := .free "len") rfl)
theorem Txt.f_list (T : Txt K mg base) : mg "list" = none := He.free_ok T.I T.G (T.c.a.fact 144 (f := .free "list") rfl)
theorem Txt.f_zip (T : Txt K mg base) : mg "zip" = none := He.free_ok T.I T.G (T.c.a.fact 145 (f := .free "zip") rfl)
theorem Txt.f_sorted (T : Txt K mg base) : mg "sorted" = none := He.free_ok T.I T.G (T.c.a.fact 146 (f := .free "sorted") rfl)
theorem Txt.f_all (T : Txt K mg base) : mg "all" = none := He.free_ok T.I T.G (T.c.a.fact 147 (f := .free "all") rfl)
theorem Txt.f_abs (T : Txt K mg base) : mg "abs" = none := He.free_ok T.I T.G (T.c.a.fact 148 (f := .free "abs") rfl)
theorem Txt.f_min (T : Txt K mg base) : mg "min" = none := He.free_ok T.I T.G (T.c.a.fact 149 (f := .free "min") rfl)
theorem Txt.f_max (T : Txt K mg base) : mg "max" = none := He.free_ok T.I T.G (T.c.a.fact 150 (f := .free "max") rfl)
theorem Txt.f_tuple (T : Txt K mg base) : mg "tuple" = none := He.free_ok T.I T.G (T.c.a.fact 151 (f := .free "tuple") rfl)
theorem Txt.f_str (T : Txt K mg base) : mg "str" = none := He.free_ok T.I T.G (T.c.a.fact 152 (f := .free "str") rfl)
theorem Txt.f_enumerate (T : Txt K mg base) : mg "enumerate" = none := He.free_ok T.I T.G (T.c.a.fact 153 (f := .free "enumerate") rfl)
theorem Txt.f_classmethod (T : Txt K mg base) : mg "classmethod" = none := He.free_ok T.I T.G (T.c.a.fact 154 (f := .free "classmethod") rfl)
theorem Txt.f_property (T : Txt K mg base) : mg "property" = none := He.free_ok T.I T.G (T.c.a.fact 155 (f := .free "property") rfl)
theorem Txt.f_ValueError (T : Txt K mg base) : mg "ValueError" = none := He.free_ok T.I T.G (T.c.a.fact 156 (f := .free "ValueError") rfl)
theorem Txt.i_MAX_SIZE (T : Txt K mg base) : ∃ u, mg "MAX_SIZE" = some u ∧ RelV (.int 300) u := by
  obtain ⟨t, h⟩ := He.int_ok T.I T.G (T.c.a.fact 157 (f := .int "MAX_SIZE" 300) rfl)
  exact ⟨_, h, t, rfl⟩
theorem Txt.i_MAX_COUNTED (T : Txt K mg base) : ∃ u, mg "MAX_COUNTED" = some u ∧ RelV (.int 40) u := by
  obtain ⟨t, h⟩ := He.int_ok T.I T.G (T.c.a.fact 158 (f := .int "MAX_COUNTED" 40) rfl)
  exact ⟨_, h, t, rfl⟩
theorem Txt.i_MAX_DEGREE (T : Txt K mg base) : ∃ u, mg "MAX_DEGREE" = some u ∧ RelV (.int 1000000000000000000000000000000) u := by
  obtain ⟨t, h⟩ := He.int_ok T.I T.G (T.c.a.fact 159 (f := .int "MAX_DEGREE" 1000000000000000000000000000000) rfl)
  exact ⟨_, h, t, rfl⟩
theorem Txt.n_Map_own_size (T : Txt K mg base) : NoAttr K (C_Map K) "own_size" := He.noat_ok (T.c.a.fact 160 (f := .noat "Map" "own_size") rfl)
theorem Txt.n_Map_own_arrows (T : Txt K mg base) : NoAttr K (C_Map K) "own_arrows" := He.noat_ok (T.c.a.fact 161 (f := .noat "Map" "own_arrows") rfl)
theorem Txt.n_Shape_own_cycles (T : Txt K mg base) : NoAttr K (C_Shape K) "own_cycles" := He.noat_ok (T.c.a.fact 162 (f := .noat "Shape" "own_cycles") rfl)
theorem Txt.n_Shape_own_chains (T : Txt K mg base) : NoAttr K (C_Shape K) "own_chains" := He.noat_ok (T.c.a.fact 163 (f := .noat "Shape" "own_chains") rfl)
theorem Txt.n_ChainCounter_own_chains (T : Txt K mg base) : NoAttr K (C_ChainCounter K) "own_chains" := He.noat_ok (T.c.a.fact 164 (f := .noat "ChainCounter" "own_chains") rfl)
theorem Txt.n_ChainCounter_own_degree (T : Txt K mg base) : NoAttr K (C_ChainCounter K) "own_degree" := He.noat_ok (T.c.a.fact 165 (f := .noat "ChainCounter" "own_degree") rfl)
theorem Txt.n_ChainCounter_own_known (T : Txt K mg base) : NoAttr K (C_ChainCounter K) "own_known" := He.noat_ok (T.c.a.fact 166 (f := .noat "ChainCounter" "own_known") rfl)
theorem Txt.m_Map_init (T : Txt K mg base) : Meth K (C_Map K) "__init__" (a_Map_init K) := He.meth_ok (T.c.a.fact 167 (f := .meth "Map" "__init__") rfl)
theorem Txt.m_Map_mul (T : Txt K mg base) : Meth K (C_Map K) "__mul__" (a_Map_mul K) := He.meth_ok (T.c.a.fact 168 (f := .meth "Map" "__mul__") rfl)
theorem Txt.m_Map_invert (T : Txt K mg base) : Meth K (C_Map K) "__invert__" (a_Map_invert K) := He.meth_ok (T.c.a.fact 169 (f := .meth "Map" "__invert__") rfl)
theorem Txt.m_Map_power (T : Txt K mg base) : Meth K (C_Map K) "power" (a_Map_power K) := He.meth_ok (T.c.a.fact 170 (f := .meth "Map" "power") rfl)
theorem Txt.m_Map_and (T : Txt K mg base) : Meth K (C_Map K) "__and__" (a_Map_and K) := He.meth_ok (T.c.a.fact 171 (f := .meth "Map" "__and__") rfl)
theorem Txt.m_Map_le (T : Txt K mg base) : Meth K (C_Map K) "__le__" (a_Map_le K) := He.meth_ok (T.c.a.fact 172 (f := .meth "Map" "__le__") rfl)
theorem Txt.m_Map_getitem (T : Txt K mg base) : Meth K (C_Map K) "__getitem__" (a_Map_getitem K) := He.meth_ok (T.c.a.fact 173 (f := .meth "Map" "__getitem__") rfl)
theorem Txt.m_Map_len (T : Txt K mg base) : Meth K (C_Map K) "__len__" (a_Map_len K) := He.meth_ok (T.c.a.fact 174 (f := .meth "Map" "__len__") rfl)
theorem Txt.m_Map_eq (T : Txt K mg base) : Meth K (C_Map K) "__eq__" (a_Map_eq K) := He.meth_ok (T.c.a.fact 175 (f := .meth "Map" "__eq__") rfl)
theorem Txt.m_Map_is_source (T : Txt K mg base) : Meth K (C_Map K) "is_source" (a_Map_is_source K) := He.meth_ok (T.c.a.fact 176 (f := .meth "Map" "is_source") rfl)
theorem Txt.m_Shape_init (T : Txt K mg base) : Meth K (C_Shape K) "__init__" (a_Shape_init K) := He.meth_ok (T.c.a.fact 177 (f := .meth "Shape" "__init__") rfl)
theorem Txt.m_Shape_eq (T : Txt K mg base) : Meth K (C_Shape K) "__eq__" (a_Shape_eq K) := He.meth_ok (T.c.a.fact 178 (f := .meth "Shape" "__eq__") rfl)
theorem Txt.m_ChainCounter_init (T : Txt K mg base) : Meth K (C_ChainCounter K) "__init__" (a_ChainCounter_init K) := He.meth_ok (T.c.a.fact 179 (f := .meth "ChainCounter" "__init__") rfl)
theorem Txt.m_ChainCounter_ways (T : Txt K mg base) : Meth K (C_ChainCounter K) "ways" (a_ChainCounter_ways K) := He.meth_ok (T.c.a.fact 180 (f := .meth "ChainCounter" "ways") rfl)
theorem Txt.m_ChainCounter_with_first (T : Txt K mg base) : Meth K (C_ChainCounter K) "with_first" (a_ChainCounter_with_first K) := He.meth_ok (T.c.a.fact 181 (f := .meth "ChainCounter" "with_first") rfl)
theorem Txt.p_Map_size (T : Txt K mg base) : PropOf K (C_Map K) "size" (He.ma K (C_Map K) "size") (a_Map_size K) := bProp_ok (T.c.ex 0)
theorem Txt.p_Map_arrows (T : Txt K mg base) : PropOf K (C_Map K) "arrows" (He.ma K (C_Map K) "arrows") (a_Map_arrows K) := bProp_ok (T.c.ex 1)
theorem Txt.p_Shape_cycles (T : Txt K mg base) : PropOf K (C_Shape K) "cycles" (He.ma K (C_Shape K) "cycles") (a_Shape_cycles K) := bProp_ok (T.c.ex 2)
theorem Txt.p_Shape_chains (T : Txt K mg base) : PropOf K (C_Shape K) "chains" (He.ma K (C_Shape K) "chains") (a_Shape_chains K) := bProp_ok (T.c.ex 3)
theorem Txt.bcm (T : Txt K mg base) : bCm "Map" "identity" K = true := T.c.ex 6
theorem Txt.cread (T : Txt K mg base) : ClX.CRead K (C_Map K) (.type "type") := by
  obtain ⟨h1, h⟩ := He.ba T.bcm
  obtain ⟨h2, h⟩ := He.ba h
  exact ⟨h1, He.eqO_ok h2⟩
theorem Txt.cmet (T : Txt K mg base) : ClX.CMet K (C_Map K) (.type "type") "identity" (He.ma K (C_Map K) "identity") (a_Map_identity K) := by
  obtain ⟨h1, h⟩ := He.ba T.bcm
  obtain ⟨h2, h⟩ := He.ba h
  obtain ⟨h3, h4⟩ := He.ba h
  exact He5.cmet_of h3 h4
theorem bCls_ty {H : Hp} {C : Str} (h : bCls C K = true) (cl : Cls K (He.ga K C)) {a dx : Addr} {fs : List (Str × V)} (e : H a = some (.ins (He.ga K C) dx fs)) : TyOf K H (.ref a) (.ref (He.ga K C)) := by
  obtain ⟨h1, h⟩ := He.ba h
  obtain ⟨h2, h⟩ := He.ba h
  obtain ⟨h3, h4⟩ := He.ba h
  exact .ins e cl (He.eqO_ok h1) (He.eqO_ok h2) (of_decide_eq_true h3) (of_decide_eq_true h4)
theorem Txt.ty_Map (T : Txt K mg base) {H : Hp} {a dx : Addr} {fs : List (Str × V)} (e : H a = some (.ins (C_Map K) dx fs)) : TyOf K H (.ref a) (.ref (C_Map K)) := bCls_ty (T.c.ex 4) T.cl_Map e
theorem Txt.ty_Shape (T : Txt K mg base) {H : Hp} {a dx : Addr} {fs : List (Str × V)} (e : H a = some (.ins (C_Shape K) dx fs)) : TyOf K H (.ref a) (.ref (C_Shape K)) := bCls_ty (T.c.ex 5) T.cl_Shape e
theorem Txt.mro_Shape (T : Txt K mg base) : PySem.W.mroIn K (C_Shape K) (.type "object") = some true := by
  have h : bCls "Shape" K = true := T.c.ex 5
  obtain ⟨h1, h⟩ := He.ba h
  obtain ⟨h2, h⟩ := He.ba h
  obtain ⟨h3, h4⟩ := He.ba h
  exact of_decide_eq_true h4
theorem Txt.ne_Shape (T : Txt K mg base) : PySem.W.findIn K (.ref (C_Shape K)) "__ne__" = some (some (.builtin "object.__ne__")) := He.eqO_ok (T.c.ex 8)
end
abbrev N_is_integer : List Str := ["value"]
theorem sc_is_integer : FnScope N_is_integer ["value"] (defScope s_is_integer) := ⟨rfl, rfl, rfl, by decide +kernel, rfl, by decide +kernel, by decide +kernel⟩
abbrev N_in_range : List Str := ["value", "least", "most"]
theorem sc_in_range : FnScope N_in_range ["value", "least", "most"] (defScope s_in_range) := ⟨rfl, rfl, rfl, by decide +kernel, rfl, by decide +kernel, by decide +kernel⟩
abbrev N_check_size : List Str := ["size"]
theorem sc_check_size : FnScope N_check_size ["size"] (defScope s_check_size) := ⟨rfl, rfl, rfl, by decide +kernel, rfl, by decide +kernel, by decide +kernel⟩
abbrev N_check_elements : List Str := ["size", "points", "seen", "element"]
theorem sc_check_elements : FnScope N_check_elements ["size", "points"] (defScope s_check_elements) := ⟨rfl, rfl, rfl, by decide +kernel, rfl, by decide +kernel, by decide +kernel⟩
abbrev N_are_arrows : List Str := ["size", "arrows", "targets", "source", "target"]
theorem sc_are_arrows : FnScope N_are_arrows ["size", "arrows"] (defScope s_are_arrows) := ⟨rfl, rfl, rfl, by decide +kernel, rfl, by decide +kernel, by decide +kernel⟩
abbrev N_common_size : List Str := ["one", "other"]
theorem sc_common_size : FnScope N_common_size ["one", "other"] (defScope s_common_size) := ⟨rfl, rfl, rfl, by decide +kernel, rfl, by decide +kernel, by decide +kernel⟩
abbrev N_row_from : List Str := ["arrows", "element", "row"]
theorem sc_row_from : FnScope N_row_from ["arrows", "element"] (defScope s_row_from) := ⟨rfl, rfl, rfl, by decide +kernel, rfl, by decide +kernel, by decide +kernel⟩
abbrev N_moved : List Str := ["arrows", "steps", "found", "seen", "targets", "target", "source", "row", "closed", "element", "place"]
theorem sc_moved : FnScope N_moved ["arrows", "steps"] (defScope s_moved) := ⟨rfl, rfl, rfl, by decide +kernel, rfl, by decide +kernel, by decide +kernel⟩
abbrev N_Map_init : List Str := ["self", "size", "arrows", "source"]
theorem sc_Map_init : FnScope N_Map_init ["self", "size", "arrows"] (defScope s_Map_init) := ⟨rfl, rfl, rfl, by decide +kernel, rfl, by decide +kernel, by decide +kernel⟩
abbrev N_Map_identity : List Str := ["cls", "size", "element"]
theorem sc_Map_identity : FnScope N_Map_identity ["cls", "size"] (defScope s_Map_identity) := ⟨rfl, rfl, rfl, by decide +kernel, rfl, by decide +kernel, by decide +kernel⟩
abbrev N_Map_size : List Str := ["self"]
theorem sc_Map_size : FnScope N_Map_size ["self"] (defScope s_Map_size) := ⟨rfl, rfl, rfl, by decide +kernel, rfl, by decide +kernel, by decide +kernel⟩
abbrev N_Map_arrows : List Str := ["self"]
theorem sc_Map_arrows : FnScope N_Map_arrows ["self"] (defScope s_Map_arrows) := ⟨rfl, rfl, rfl, by decide +kernel, rfl, by decide +kernel, by decide +kernel⟩
abbrev N_Map_mul : List Str := ["self", "other", "size", "later", "source", "target"]
theorem sc_Map_mul : FnScope N_Map_mul ["self", "other"] (defScope s_Map_mul) := ⟨rfl, rfl, rfl, by decide +kernel, rfl, by decide +kernel, by decide +kernel⟩
abbrev N_Map_invert : List Str := ["self", "source", "target"]
theorem sc_Map_invert : FnScope N_Map_invert ["self"] (defScope s_Map_invert) := ⟨rfl, rfl, rfl, by decide +kernel, rfl, by decide +kernel, by decide +kernel⟩
abbrev N_Map_power : List Str := ["self", "exponent", "arrows", "source", "target"]
theorem sc_Map_power : FnScope N_Map_power ["self", "exponent"] (defScope s_Map_power) := ⟨rfl, rfl, rfl, by decide +kernel, rfl, by decide +kernel, by decide +kernel⟩
abbrev N_Map_and : List Str := ["self", "other", "size", "later", "both", "source", "target"]
theorem sc_Map_and : FnScope N_Map_and ["self", "other"] (defScope s_Map_and) := ⟨rfl, rfl, rfl, by decide +kernel, rfl, by decide +kernel, by decide +kernel⟩
abbrev N_Map_le : List Str := ["self", "other"]
theorem sc_Map_le : FnScope N_Map_le ["self", "other"] (defScope s_Map_le) := ⟨rfl, rfl, rfl, by decide +kernel, rfl, by decide +kernel, by decide +kernel⟩
abbrev N_Map_getitem : List Str := ["self", "element"]
theorem sc_Map_getitem : FnScope N_Map_getitem ["self", "element"] (defScope s_Map_getitem) := ⟨rfl, rfl, rfl, by decide +kernel, rfl, by decide +kernel, by decide +kernel⟩
abbrev N_Map_len : List Str := ["self"]
theorem sc_Map_len : FnScope N_Map_len ["self"] (defScope s_Map_len) := ⟨rfl, rfl, rfl, by decide +kernel, rfl, by decide +kernel, by decide +kernel⟩
abbrev N_Map_eq : List Str := ["self", "other"]
theorem sc_Map_eq : FnScope N_Map_eq ["self", "other"] (defScope s_Map_eq) := ⟨rfl, rfl, rfl, by decide +kernel, rfl, by decide +kernel, by decide +kernel⟩
abbrev N_Map_is_source : List Str := ["self", "value"]
theorem sc_Map_is_source : FnScope N_Map_is_source ["self", "value"] (defScope s_Map_is_source) := ⟨rfl, rfl, rfl, by decide +kernel, rfl, by decide +kernel, by decide +kernel⟩
abbrev N_is_part : List Str := ["arrows", "others", "source", "target"]
theorem sc_is_part : FnScope N_is_part ["arrows", "others"] (defScope s_is_part) := ⟨rfl, rfl, rfl, by decide +kernel, rfl, by decide +kernel, by decide +kernel⟩
abbrev N_check_map : List Str := ["value"]
theorem sc_check_map : FnScope N_check_map ["value"] (defScope s_check_map) := ⟨rfl, rfl, rfl, by decide +kernel, rfl, by decide +kernel, by decide +kernel⟩
abbrev N_check_maps : List Str := ["one", "other"]
theorem sc_check_maps : FnScope N_check_maps ["one", "other"] (defScope s_check_maps) := ⟨rfl, rfl, rfl, by decide +kernel, rfl, by decide +kernel, by decide +kernel⟩
abbrev N_greatest_divisor : List Str := ["one", "other"]
theorem sc_greatest_divisor : FnScope N_greatest_divisor ["one", "other"] (defScope s_greatest_divisor) := ⟨rfl, rfl, rfl, by decide +kernel, rfl, by decide +kernel, by decide +kernel⟩
abbrev N_largest : List Str := ["numbers", "least", "found", "number"]
theorem sc_largest : FnScope N_largest ["numbers", "least"] (defScope s_largest) := ⟨rfl, rfl, rfl, by decide +kernel, rfl, by decide +kernel, by decide +kernel⟩
abbrev N_factorial : List Str := ["number", "found", "factor"]
theorem sc_factorial : FnScope N_factorial ["number"] (defScope s_factorial) := ⟨rfl, rfl, rfl, by decide +kernel, rfl, by decide +kernel, by decide +kernel⟩
abbrev N_power_of : List Str := ["base", "exponent", "found", "turn"]
theorem sc_power_of : FnScope N_power_of ["base", "exponent"] (defScope s_power_of) := ⟨rfl, rfl, rfl, by decide +kernel, rfl, by decide +kernel, by decide +kernel⟩
abbrev N_parts_of : List Str := ["given", "arrows", "targets", "target", "cycles", "chains", "seen", "element", "one"]
theorem sc_parts_of : FnScope N_parts_of ["given"] (defScope s_parts_of) := ⟨rfl, rfl, rfl, by decide +kernel, rfl, by decide +kernel, by decide +kernel⟩
abbrev N_are_counts : List Str := ["value", "one", "number"]
theorem sc_are_counts : FnScope N_are_counts ["value"] (defScope s_are_counts) := ⟨rfl, rfl, rfl, by decide +kernel, rfl, by decide +kernel, by decide +kernel⟩
abbrev N_ordered : List Str := ["counts", "length"]
theorem sc_ordered : FnScope N_ordered ["counts"] (defScope s_ordered) := ⟨rfl, rfl, rfl, by decide +kernel, rfl, by decide +kernel, by decide +kernel⟩
abbrev N_Shape_init : List Str := ["self", "cycles", "chains"]
theorem sc_Shape_init : FnScope N_Shape_init ["self", "cycles", "chains"] (defScope s_Shape_init) := ⟨rfl, rfl, rfl, by decide +kernel, rfl, by decide +kernel, by decide +kernel⟩
abbrev N_Shape_cycles : List Str := ["self"]
theorem sc_Shape_cycles : FnScope N_Shape_cycles ["self"] (defScope s_Shape_cycles) := ⟨rfl, rfl, rfl, by decide +kernel, rfl, by decide +kernel, by decide +kernel⟩
abbrev N_Shape_chains : List Str := ["self"]
theorem sc_Shape_chains : FnScope N_Shape_chains ["self"] (defScope s_Shape_chains) := ⟨rfl, rfl, rfl, by decide +kernel, rfl, by decide +kernel, by decide +kernel⟩
abbrev N_Shape_eq : List Str := ["self", "other"]
theorem sc_Shape_eq : FnScope N_Shape_eq ["self", "other"] (defScope s_Shape_eq) := ⟨rfl, rfl, rfl, by decide +kernel, rfl, by decide +kernel, by decide +kernel⟩
abbrev N_counts_of : List Str := ["parts", "found", "part"]
theorem sc_counts_of : FnScope N_counts_of ["parts"] (defScope s_counts_of) := ⟨rfl, rfl, rfl, by decide +kernel, rfl, by decide +kernel, by decide +kernel⟩
abbrev N_shape_of : List Str := ["given", "cycles", "chains"]
theorem sc_shape_of : FnScope N_shape_of ["given"] (defScope s_shape_of) := ⟨rfl, rfl, rfl, by decide +kernel, rfl, by decide +kernel, by decide +kernel⟩
abbrev N_are_alike : List Str := ["one", "other"]
theorem sc_are_alike : FnScope N_are_alike ["one", "other"] (defScope s_are_alike) := ⟨rfl, rfl, rfl, by decide +kernel, rfl, by decide +kernel, by decide +kernel⟩
abbrev N_by_length : List Str := ["parts"]
theorem sc_by_length : FnScope N_by_length ["parts"] (defScope s_by_length) := ⟨rfl, rfl, rfl, by decide +kernel, rfl, by decide +kernel, by decide +kernel⟩
abbrev N_count_symmetries : List Str := ["shape", "found", "length", "number"]
theorem sc_count_symmetries : FnScope N_count_symmetries ["shape"] (defScope s_count_symmetries) := ⟨rfl, rfl, rfl, by decide +kernel, rfl, by decide +kernel, by decide +kernel⟩
abbrev N_is_renaming : List Str := ["one", "other", "value"]
theorem sc_is_renaming : FnScope N_is_renaming ["one", "other", "value"] (defScope s_is_renaming) := ⟨rfl, rfl, rfl, by decide +kernel, rfl, by decide +kernel, by decide +kernel⟩
abbrev N_check_degree : List Str := ["degree"]
theorem sc_check_degree : FnScope N_check_degree ["degree"] (defScope s_check_degree) := ⟨rfl, rfl, rfl, by decide +kernel, rfl, by decide +kernel, by decide +kernel⟩
abbrev N_group_size : List Str := ["length", "degree", "rest", "common"]
theorem sc_group_size : FnScope N_group_size ["length", "degree"] (defScope s_group_size) := ⟨rfl, rfl, rfl, by decide +kernel, rfl, by decide +kernel, by decide +kernel⟩
abbrev N_failing_chains : List Str := ["chains", "degree", "used", "length", "left"]
theorem sc_failing_chains : FnScope N_failing_chains ["chains", "degree"] (defScope s_failing_chains) := ⟨rfl, rfl, rfl, by decide +kernel, rfl, by decide +kernel, by decide +kernel⟩
abbrev N_obstacle_of : List Str := ["shape", "degree", "length", "number", "failed"]
theorem sc_obstacle_of : FnScope N_obstacle_of ["shape", "degree"] (defScope s_obstacle_of) := ⟨rfl, rfl, rfl, by decide +kernel, rfl, by decide +kernel, by decide +kernel⟩
abbrev N_obstacle : List Str := ["given", "degree"]
theorem sc_obstacle : FnScope N_obstacle ["given", "degree"] (defScope s_obstacle) := ⟨rfl, rfl, rfl, by decide +kernel, rfl, by decide +kernel, by decide +kernel⟩
abbrev N_cycle_root : List Str := ["group", "degree", "length", "places", "start", "cycle", "turn", "element"]
theorem sc_cycle_root : FnScope N_cycle_root ["group", "degree"] (defScope s_cycle_root) := ⟨rfl, rfl, rfl, by decide +kernel, rfl, by decide +kernel, by decide +kernel⟩
abbrev N_chain_root : List Str := ["group", "places", "turn", "chain"]
theorem sc_chain_root : FnScope N_chain_root ["group"] (defScope s_chain_root) := ⟨rfl, rfl, rfl, by decide +kernel, rfl, by decide +kernel, by decide +kernel⟩
abbrev N_chain_groups : List Str := ["chains", "degree", "left", "groups", "longest"]
theorem sc_chain_groups : FnScope N_chain_groups ["chains", "degree"] (defScope s_chain_groups) := ⟨rfl, rfl, rfl, by decide +kernel, rfl, by decide +kernel, by decide +kernel⟩
abbrev N_root : List Str := ["given", "degree", "cycles", "chains", "arrows", "left", "group"]
theorem sc_root : FnScope N_root ["given", "degree"] (defScope s_root) := ⟨rfl, rfl, rfl, by decide +kernel, rfl, by decide +kernel, by decide +kernel⟩
abbrev N_choices : List Str := ["size", "part", "found", "turn"]
theorem sc_choices : FnScope N_choices ["size", "part"] (defScope s_choices) := ⟨rfl, rfl, rfl, by decide +kernel, rfl, by decide +kernel, by decide +kernel⟩
abbrev N_count_cycle_roots : List Str := ["length", "number", "degree", "ways", "some", "total", "size", "merged"]
theorem sc_count_cycle_roots : FnScope N_count_cycle_roots ["length", "number", "degree"] (defScope s_count_cycle_roots) := ⟨rfl, rfl, rfl, by decide +kernel, rfl, by decide +kernel, by decide +kernel⟩
abbrev N_ChainCounter_init : List Str := ["self", "chains", "degree"]
theorem sc_ChainCounter_init : FnScope N_ChainCounter_init ["self", "chains", "degree"] (defScope s_ChainCounter_init) := ⟨rfl, rfl, rfl, by decide +kernel, rfl, by decide +kernel, by decide +kernel⟩
abbrev N_ChainCounter_ways : List Str := ["self", "length", "here", "below", "key"]
theorem sc_ChainCounter_ways : FnScope N_ChainCounter_ways ["self", "length", "here", "below"] (defScope s_ChainCounter_ways) := ⟨rfl, rfl, rfl, by decide +kernel, rfl, by decide +kernel, by decide +kernel⟩
abbrev N_ChainCounter_with_first : List Str := ["self", "length", "here", "below", "degree", "total", "size", "ways", "rest", "filled"]
theorem sc_ChainCounter_with_first : FnScope N_ChainCounter_with_first ["self", "length", "here", "below"] (defScope s_ChainCounter_with_first) := ⟨rfl, rfl, rfl, by decide +kernel, rfl, by decide +kernel, by decide +kernel⟩
abbrev N_count_roots : List Str := ["given", "degree", "shape", "found", "length", "number", "longest", "counter"]
theorem sc_count_roots : FnScope N_count_roots ["given", "degree"] (defScope s_count_roots) := ⟨rfl, rfl, rfl, by decide +kernel, rfl, by decide +kernel, by decide +kernel⟩
abbrev N_commute : List Str := ["one", "other"]
theorem sc_commute : FnScope N_commute ["one", "other"] (defScope s_commute) := ⟨rfl, rfl, rfl, by decide +kernel, rfl, by decide +kernel, by decide +kernel⟩
abbrev N_count_commuting : List Str := ["given"]
theorem sc_count_commuting : FnScope N_count_commuting ["given"] (defScope s_count_commuting) := ⟨rfl, rfl, rfl, by decide +kernel, rfl, by decide +kernel, by decide +kernel⟩
abbrev N_count_extensions : List Str := ["given", "arrows", "more", "free"]
theorem sc_count_extensions : FnScope N_count_extensions ["given", "arrows"] (defScope s_count_extensions) := ⟨rfl, rfl, rfl, by decide +kernel, rfl, by decide +kernel, by decide +kernel⟩
abbrev N_common_multiple : List Str := ["numbers", "found", "number"]
theorem sc_common_multiple : FnScope N_common_multiple ["numbers"] (defScope s_common_multiple) := ⟨rfl, rfl, rfl, by decide +kernel, rfl, by decide +kernel, by decide +kernel⟩
abbrev N_repetition_of : List Str := ["cycles", "chains"]
theorem sc_repetition_of : FnScope N_repetition_of ["cycles", "chains"] (defScope s_repetition_of) := ⟨rfl, rfl, rfl, by decide +kernel, rfl, by decide +kernel, by decide +kernel⟩
abbrev N_repetition : List Str := ["given", "cycles", "chains", "cycle", "chain"]
theorem sc_repetition : FnScope N_repetition ["given"] (defScope s_repetition) := ⟨rfl, rfl, rfl, by decide +kernel, rfl, by decide +kernel, by decide +kernel⟩
abbrev N_fate : List Str := ["given", "element", "arrows", "row"]
theorem sc_fate : FnScope N_fate ["given", "element"] (defScope s_fate) := ⟨rfl, rfl, rfl, by decide +kernel, rfl, by decide +kernel, by decide +kernel⟩
abbrev N_is_step : List Str := ["size", "value", "element"]
theorem sc_is_step : FnScope N_is_step ["size", "value"] (defScope s_is_step) := ⟨rfl, rfl, rfl, by decide +kernel, rfl, by decide +kernel, by decide +kernel⟩
abbrev N_first_invalid : List Str := ["size", "value", "position", "step"]
theorem sc_first_invalid : FnScope N_first_invalid ["size", "value"] (defScope s_first_invalid) := ⟨rfl, rfl, rfl, by decide +kernel, rfl, by decide +kernel, by decide +kernel⟩
abbrev N_after_list : List Str := ["arrows", "steps", "found", "places", "source", "target", "step", "one", "other"]
theorem sc_after_list : FnScope N_after_list ["arrows", "steps"] (defScope s_after_list) := ⟨rfl, rfl, rfl, by decide +kernel, rfl, by decide +kernel, by decide +kernel⟩
abbrev N_applied : List Str := ["given", "steps", "problem"]
theorem sc_applied : FnScope N_applied ["given", "steps"] (defScope s_applied) := ⟨rfl, rfl, rfl, by decide +kernel, rfl, by decide +kernel, by decide +kernel⟩
abbrev N_link_of : List Str := ["start", "goal", "arrows", "ends", "source", "target"]
theorem sc_link_of : FnScope N_link_of ["start", "goal"] (defScope s_link_of) := ⟨rfl, rfl, rfl, by decide +kernel, rfl, by decide +kernel, by decide +kernel⟩
abbrev N_parts_between : List Str := ["start", "goal", "link", "cycles", "chains"]
theorem sc_parts_between : FnScope N_parts_between ["start", "goal"] (defScope s_parts_between) := ⟨rfl, rfl, rfl, by decide +kernel, rfl, by decide +kernel, by decide +kernel⟩
abbrev N_distance : List Str := ["start", "goal", "parts"]
theorem sc_distance : FnScope N_distance ["start", "goal"] (defScope s_distance) := ⟨rfl, rfl, rfl, by decide +kernel, rfl, by decide +kernel, by decide +kernel⟩
abbrev N_forgotten : List Str := ["start", "goal", "ends", "source"]
theorem sc_forgotten : FnScope N_forgotten ["start", "goal"] (defScope s_forgotten) := ⟨rfl, rfl, rfl, by decide +kernel, rfl, by decide +kernel, by decide +kernel⟩
abbrev N_swap_of : List Str := ["one", "other"]
theorem sc_swap_of : FnScope N_swap_of ["one", "other"] (defScope s_swap_of) := ⟨rfl, rfl, rfl, by decide +kernel, rfl, by decide +kernel, by decide +kernel⟩
abbrev N_steps : List Str := ["start", "goal", "parts", "found", "part", "element"]
theorem sc_steps : FnScope N_steps ["start", "goal"] (defScope s_steps) := ⟨rfl, rfl, rfl, by decide +kernel, rfl, by decide +kernel, by decide +kernel⟩
abbrev N_next_steps : List Str := ["start", "goal", "parts", "home", "element", "number", "part", "found", "one", "later", "other"]
theorem sc_next_steps : FnScope N_next_steps ["start", "goal"] (defScope s_next_steps) := ⟨rfl, rfl, rfl, by decide +kernel, rfl, by decide +kernel, by decide +kernel⟩
abbrev N_count_shortest : List Str := ["start", "goal", "parts", "found", "part"]
theorem sc_count_shortest : FnScope N_count_shortest ["start", "goal"] (defScope s_count_shortest) := ⟨rfl, rfl, rfl, by decide +kernel, rfl, by decide +kernel, by decide +kernel⟩
abbrev N_law_hand : List Str := ["_law_script", "_law_k", "_law_cell", "_law_seed"]
theorem sc_law_hand : FnScope N_law_hand ["_law_script", "_law_k"] (defScope s_law_hand) := ⟨rfl, rfl, rfl, by decide +kernel, rfl, by decide +kernel, by decide +kernel⟩
abbrev N_law_draw : List Str := ["_law_pool", "_law_size", "_law_found"]
theorem sc_law_draw : FnScope N_law_draw ["_law_pool", "_law_size"] (defScope s_law_draw) := ⟨rfl, rfl, rfl, by decide +kernel, rfl, by decide +kernel, by decide +kernel⟩
abbrev N_law_arrows : List Str := ["_law_pool", "_law_size", "_law_way", "_law_left", "_law_found", "_law_source"]
theorem sc_law_arrows : FnScope N_law_arrows ["_law_pool", "_law_size", "_law_way"] (defScope s_law_arrows) := ⟨rfl, rfl, rfl, by decide +kernel, rfl, by decide +kernel, by decide +kernel⟩
abbrev N_law_full : List Str := ["_law_pool", "_law_size", "_law_left", "_law_found", "_law_source"]
theorem sc_law_full : FnScope N_law_full ["_law_pool", "_law_size"] (defScope s_law_full) := ⟨rfl, rfl, rfl, by decide +kernel, rfl, by decide +kernel, by decide +kernel⟩
abbrev N_law_same : List Str := ["_law_one", "_law_other", "_law_by"]
theorem sc_law_same : FnScope N_law_same ["_law_one", "_law_other", "_law_by"] (defScope s_law_same) := ⟨rfl, rfl, rfl, by decide +kernel, rfl, by decide +kernel, by decide +kernel⟩
abbrev N_law_single : List Str := ["_law_one", "_law_other", "_law_by", "_law_degree", "_law_number"]
theorem sc_law_single : FnScope N_law_single ["_law_one", "_law_other", "_law_by", "_law_degree"] (defScope s_law_single) := ⟨rfl, rfl, rfl, by decide +kernel, rfl, by decide +kernel, by decide +kernel⟩
abbrev N_law_steps : List Str := ["_law_one", "_law_other", "_law_by", "_law_renamed", "_law_row", "_law_near", "_law_step", "_law_number"]
theorem sc_law_steps : FnScope N_law_steps ["_law_one", "_law_other", "_law_by", "_law_renamed"] (defScope s_law_steps) := ⟨rfl, rfl, rfl, by decide +kernel, rfl, by decide +kernel, by decide +kernel⟩
abbrev N_law : List Str := ["_law_script", "_law_k", "_law_pool", "_law_size", "_law_by", "_law_one", "_law_other", "_law_renamed", "_law_degree", "_law_same_here"]
theorem sc_law : FnScope N_law ["_law_script"] (defScope s_law) := ⟨rfl, rfl, rfl, by decide +kernel, rfl, by decide +kernel, by decide +kernel⟩
end K35
end

section
set_option Elab.async false
set_option linter.all false
set_option maxRecDepth 100000
set_option maxHeartbeats 4000000
/-! D0: how numbers' lists and tables stand on the heap; comprehensions by what each turn gives. -/
namespace K35
open PySem PySem.Spec PyProof.Rows L2 CM
abbrev nk (x : Nat) : Key := Sum.inl (x : Int)
abbrev nv (x : Nat) : V := V.int (x : Int)
abbrev dv (ps : List (Nat × V)) : List (Key × V) := ps.map fun p => (nk p.1, p.2)
abbrev iv (ps : List (Nat × Nat)) : List (Nat × V) := ps.map fun p => (p.1, nv p.2)
abbrev dk (ps : List (Nat × Nat)) : List (Key × V) := dv (iv ps)
abbrev li (xs : List Nat) : List V := xs.map nv
theorem nk_inj {x y : Nat} (h : nk x = nk y) : x = y := by
  have h1 : (x : Int) = (y : Int) := Sum.inl.inj h
  omega
theorem valV_dv (x : Nat) : ∀ ps : List (Nat × V), valV (dv ps) (nk x) = lk ps x
  | [] => rfl
  | (a, b) :: r => by
    by_cases e : a = x
    · subst e
      rw [show dv ((a, b) :: r) = (nk a, b) :: dv r from rfl, valV_pos rfl]
      simp [lk]
    · rw [show dv ((a, b) :: r) = (nk a, b) :: dv r from rfl, valV_neg (fun z => e (nk_inj z)), valV_dv x r]
      simp [lk, List.find?_cons, e]
theorem lk_iv (x : Nat) (ps : List (Nat × Nat)) : lk (iv ps) x = (lk ps x).map nv := by
  unfold lk
  rw [List.find?_map, Option.map_map, Option.map_map]
  rfl
theorem valV_dk (x : Nat) (ps : List (Nat × Nat)) : valV (dk ps) (nk x) = (lk ps x).map nv := by rw [valV_dv, lk_iv]
theorem valV_rep {ps : List (Nat × Nat)} {f : PF} (r : Rep ps f) (x : Nat) : valV (dk ps) (nk x) = (f x).map nv := by rw [valV_dk, r.lk]
theorem put_new {ps : List (Nat × V)} {x : Nat} (v : V) (h : x ∉ ps.map (·.1)) : putK (dv ps) (nk x) v = dv (ps ++ [(x, v)]) := by
  rw [putK_new]
  · rw [dv, dv, List.map_append]; rfl
  · rw [valV_dv]; exact lk_none.mpr h
theorem dv_length (ps : List (Nat × V)) : (dv ps).length = ps.length := List.length_map _
theorem dk_length (ps : List (Nat × Nat)) : (dk ps).length = ps.length := by rw [dk, dv_length, List.length_map]
theorem iv_keys (ps : List (Nat × Nat)) : (iv ps).map (·.1) = ps.map (·.1) := by rw [iv, List.map_map]; rfl
theorem dv_get {ps : List (Nat × V)} {i : Nat} {k : Key} {v : V} (h : (dv ps)[i]? = some (k, v)) : ∃ x, ps[i]? = some (x, v) ∧ k = nk x := by
  rw [dv, List.getElem?_map] at h
  cases e : ps[i]? with
  | none => rw [e] at h; cases h
  | some p =>
    obtain ⟨a, b⟩ := p
    rw [e] at h
    cases h
    exact ⟨a, rfl, rfl⟩
/-- a read of a table that stands or is locked -/
theorem dget {H : Hp} {d : Addr} {ps : List (Nat × V)} {x : Nat} {o : Option V} (h : Rd H d (.dK (dv ps))) (e : lk ps x = o) : DGet H d (nv x) o := .inl ⟨_, nk x, h, rfl, by rw [valV_dv, e]⟩
theorem dgetR {H : Hp} {d : Addr} {ps : List (Nat × Nat)} {f : PF} {x : Nat} {o : Option V} (h : Rd H d (.dK (dk ps))) (r : Rep ps f) (e : (f x).map nv = o) : DGet H d (nv x) o :=
  dget h (by rw [lk_iv, r.lk, e])
theorem small12 {n : Nat} (h : n ≤ 1000) : n < sizeLine := small1000 h

/-! ### evaluation without a trace -/
/-- t gives v and leaves the heap -/
def Ev (t : TE) (σ : L2.St) (H : Hp) (v : V) : Prop := ∀ Q : VK, Q v H → t σ H Q
def Et (t : TT) (σ : L2.St) (H : Hp) (b : Bool) : Prop := ∀ Q : Bool → Hp → Prop, Q b H → t σ H Q
theorem Ev.var {σ : L2.St} {H : Hp} {i : Nat} {v : V} (h : σ[i]? = some (some v)) : Ev (tVar i) σ H v := fun _ q => ⟨v, h, q⟩
theorem Ev.c {σ : L2.St} {H : Hp} {v : V} : Ev (tC v) σ H v := fun _ q => q
theorem Et.yes {σ : L2.St} {H : Hp} : Et tYes σ H true := fun _ q => q

/-! ### a locked table given back -/
theorem lock_back {H H' : Hp} {d : Addr} {u : HO} {od : Obj} (hd : H d = some u) (s : Same (upd H d (.frz od u)) H') : Same H (upd H' d u) := fun b o e => by
  by_cases hb : b = d
  · subst hb; rw [upd_same, ← e, hd]
  · rw [upd_ne hb]; exact s b o (by rw [upd_ne hb]; exact e)
theorem lock_none {H : Hp} {d D : Addr} {u : HO} {od : Obj} (hd : H d = some u) (h : upd H d (.frz od u) D = none) : H D = none ∧ D ≠ d := by
  by_cases hb : D = d
  · subst hb; rw [upd_same] at h; cases h
  · rw [upd_ne hb] at h; exact ⟨h, hb⟩
theorem same_lock {H : Hp} {d : Addr} {u : HO} {od : Obj} {b : Addr} {o : HO} (hb : b ≠ d) (e : H b = some o) : upd H d (.frz od u) b = some o := by rw [upd_ne hb]; exact e

/-! ### comprehensions: n turns, at turn i the frame is tau i, F i tells the entry -/
section
variable {J : It} {n : Nat} {G : Hp → Prop} {Y : Nat → Hp → V → Hp → Prop} {g : TG} {tt : TT} {tk tv te : TE} {vs : List Nat} {σ : L2.St} {HL : Hp} {tau : Nat → L2.St}
/-- the reading behind the walk's -/
abbrev dcR (J : It) (g : TG) (tt : TT) (tk tv : TE) (vs : List Nat) (σ : L2.St) (H1 : Hp) (Qd : Addr → Hp → Prop) : Prop := ∀ D, H1 D = none → ∃ W : Nat → Nat → Hp → Prop, (∃ m, W 0 m (upd H1 D (.dK []))) ∧ ∀ i m H, W i m H →
  (J.stop i H ∧ Qd D H) ∨ (J.go i H ∧ ∃ Nx : Hp → Prop, (∀ H', Nx H' → ∃ m', m' < m ∧ W (i + 1) m' H') ∧ ∀ x H', J.yld i H x H' → g x (wipe σ vs) H' fun σ2 H2 => wipe σ2 vs = wipe σ vs ∧ tt σ2 H2 fun b H3 =>
    if b = true then tk σ2 H3 fun y H4 => tv σ2 H4 fun z H5 => ∃ kvs k, y = kV k ∧ H5 D = some (.dK kvs) ∧ kvs.length < sizeLine ∧ Nx (upd H5 D (.dK (putK kvs k z))) else Nx H3)
abbrev lcR (J : It) (g : TG) (tt : TT) (te : TE) (vs : List Nat) (σ : L2.St) (H1 : Hp) (Qd : Addr → Hp → Prop) : Prop := ∀ D, H1 D = none → ∃ W : Nat → Nat → Hp → Prop, (∃ m, W 0 m (upd H1 D (.lst []))) ∧ ∀ i m H, W i m H →
  (J.stop i H ∧ Qd D H) ∨ (J.go i H ∧ ∃ Nx : Hp → Prop, (∀ H', Nx H' → ∃ m', m' < m ∧ W (i + 1) m' H') ∧ ∀ x H', J.yld i H x H' → g x (wipe σ vs) H' fun σ2 H2 => wipe σ2 vs = wipe σ vs ∧ tt σ2 H2 fun b H3 =>
    if b = true then te σ2 H3 fun y H4 => ∃ acc, H4 D = some (.lst acc) ∧ acc.length < sizeLine ∧ Nx (upd H4 D (.lst (acc ++ [y]))) else Nx H3)
/-- how the target binds -/
structure Bd (Y : Nat → Hp → V → Hp → Prop) (n : Nat) (g : TG) (vs : List Nat) (σ : L2.St) (tau : Nat → L2.St) : Prop where
  bind : ∀ i x H H', i < n → Y i H x H' → Same H H' ∧ ∀ R : L2.St → Hp → Prop, R (tau i) H' → g x (wipe σ vs) H' R
  wip : ∀ i, i < n → wipe (tau i) vs = wipe σ vs
theorem range_fm_succ {α : Type} (F : Nat → Option α) (i : Nat) : (List.range (i + 1)).filterMap F = (List.range i).filterMap F ++ (F i).toList := by
  rw [List.range_succ, List.filterMap_append]
  cases e : F i <;> simp [e]
theorem range_fm_key {F : Nat → Option (Nat × V)} {n i x : Nat} {y : V} (nd : (((List.range n).filterMap F).map (·.1)).Nodup) (hi : i < n) (hF : F i = some (x, y)) : x ∉ (((List.range i).filterMap F).map (·.1)) := by
  have h : (List.range n)[i]? = some i := by rw [List.getElem?_range hi]
  have := take_fm_key (F := F) nd h hF
  rw [List.take_range, Nat.min_eq_left (Nat.le_of_lt hi)] at this
  exact this
theorem range_fm_len {α : Type} (F : Nat → Option α) (n : Nat) : ((List.range n).filterMap F).length ≤ n := by
  refine Nat.le_trans (List.length_filterMap_le _ _) ?_
  rw [List.length_range]; exact Nat.le_refl _
theorem dc_gen (w : Walk J n G Y) (hG : ∀ H', Same HL H' → G H') (B : Bd Y n g vs σ tau) (F : Nat → Option (Nat × V)) (nd : (((List.range n).filterMap F).map (·.1)).Nodup) (hn : n ≤ 1000)
    (ht : ∀ i H', i < n → Same HL H' → Et tt (tau i) H' (F i).isSome) (hk : ∀ i x y H', i < n → F i = some (x, y) → Same HL H' → Ev tk (tau i) H' (nv x)) (hv : ∀ i x y H', i < n → F i = some (x, y) → Same HL H' → Ev tv (tau i) H' y)
    {Qd : Addr → Hp → Prop} (q : ∀ D H', Same HL H' → HL D = none → H' D = some (.dK (dv ((List.range n).filterMap F))) → Qd D H') : dcR J g tt tk tv vs σ HL Qd := by
  intro D hD
  refine dc_it w (PvD HL D fun i => dv ((List.range i).filterMap F)) (PvD.zero hD rfl) (fun i H _ p => hG H p.1) (fun i x H H' hi p y => ?_) fun H p => q D H p.1 hD p.2
  obtain ⟨s1, bd⟩ := B.bind i x H H' hi y
  have p1 := p.grown s1
  refine bd _ ⟨B.wip i hi, ht i H' hi p1.1 _ ?_⟩
  cases e : F i with
  | none => exact p1.skip (by rw [range_fm_succ, e]; simp)
  | some r =>
    obtain ⟨a, b⟩ := r
    show (if true = true then _ else _)
    rw [if_pos rfl]
    refine hk i a b H' hi e p1.1 _ (hv i a b H' hi e p1.1 _ ?_)
    refine PvD.add (k := nk a) hD p1 ?_ rfl ?_
    · rw [dv_length]
      exact small12 (Nat.le_trans (range_fm_len _ _) (by omega))
    · rw [put_new b (range_fm_key nd hi e), range_fm_succ, e]; rfl
/-- the same for lists of plain values -/
theorem lc_gen (w : Walk J n G Y) (hG : ∀ H', Same HL H' → G H') (B : Bd Y n g vs σ tau) (F : Nat → Option V) (hn : n ≤ 1000)
    (ht : ∀ i H', i < n → Same HL H' → Et tt (tau i) H' (F i).isSome) (hv : ∀ i y H', i < n → F i = some y → Same HL H' → Ev te (tau i) H' y)
    {Qd : Addr → Hp → Prop} (q : ∀ D H', Same HL H' → HL D = none → H' D = some (.lst ((List.range n).filterMap F)) → Qd D H') : lcR J g tt te vs σ HL Qd := by
  intro D hD
  refine lc_it w (PvL HL D fun i => (List.range i).filterMap F) (PvL.zero hD rfl) (fun i H _ p => hG H p.1) (fun i x H H' hi p y => ?_) fun H p => q D H p.1 hD p.2
  obtain ⟨s1, bd⟩ := B.bind i x H H' hi y
  have p1 := p.grown s1
  refine bd _ ⟨B.wip i hi, ht i H' hi p1.1 _ ?_⟩
  cases e : F i with
  | none => exact p1.skip (by rw [range_fm_succ, e]; simp)
  | some b =>
    show (if true = true then _ else _)
    rw [if_pos rfl]
    refine hv i b H' hi e p1.1 _ ?_
    refine PvL.add hD p1 ?_ ?_
    · exact small12 (Nat.le_trans (range_fm_len _ _) (by omega))
    · rw [range_fm_succ, e]; rfl
end
/-! ### how targets bind -/
/-- one name, the heap as it was -/
theorem bd_one {n i : Nat} {σ : L2.St} {vs : List Nat} {xs : List V} (hw : ∀ v, wipe ((wipe σ vs).set i (some v)) vs = wipe σ vs) : Bd (YAt xs) n (gName i) vs σ fun k => (wipe σ vs).set i (some (xs.getD k .non)) :=
  ⟨fun k x H H' hk y => by
    obtain ⟨rfl, e⟩ := y
    have : xs.getD k .non = x := by rw [List.getD_eq_getElem?_getD, e]; rfl
    exact ⟨Same.refl _, fun R r => by rw [this] at r; exact r⟩, fun k _ => hw _⟩
theorem bd_fn {n i : Nat} {σ : L2.St} {vs : List Nat} {f : Nat → V} (hw : ∀ v, wipe ((wipe σ vs).set i (some v)) vs = wipe σ vs) : Bd (YFn f) n (gName i) vs σ fun k => (wipe σ vs).set i (some (f k)) :=
  ⟨fun k x H H' hk y => by
    obtain ⟨rfl, rfl⟩ := y
    exact ⟨Same.refl _, fun R r => r⟩, fun k _ => hw _⟩
/-- two names from a new pair -/
theorem bd_two {K : PySem.W.Frag} {n i j : Nat} {σ : L2.St} {vs : List Nat} {fx fy : Nat → Option V} (hw : ∀ a b, wipe (((wipe σ vs).set i (some a)).set j (some b)) vs = wipe σ vs) :
    Bd (YPair fx fy) n (gTup K 2 (gCons (gName i) (gCons (gName j) gNil))) vs σ fun k => ((wipe σ vs).set i (some ((fx k).getD .non))).set j (some ((fy k).getD .non)) :=
  ⟨fun k x H H' hk y => by
    obtain ⟨T, a, b, rfl, hT, rfl, e1, e2⟩ := y
    refine ⟨same_new (Same.refl _) hT, fun R r => ⟨T, _, rfl, SqT.of upd_same, rfl, a, [b], rfl, b, [], rfl, rfl, ?_⟩⟩
    rw [e1, e2] at r
    exact r, fun k _ => hw _ _⟩
/-! ### the walks over a table -/
/-- values of a table -/
theorem walk_vals {d : Addr} {o : Obj} {ps : List (Nat × V)} : Walk (Itd d o (dv ps)) ps.length (fun H => H d = some (.frz o (.dK (dv ps)))) (YAt (ps.map (·.2))) := by
  have w := walk_values (d := d) (o := o) (kvs := dv ps)
  rw [dv_length] at w
  refine w.mono (fun _ h => h) fun i H x H' _ _ y => ?_
  obtain ⟨e, k, hk⟩ := y
  obtain ⟨a, h1, _⟩ := dv_get hk
  exact ⟨e, by rw [List.getElem?_map, h1]; rfl⟩
theorem walk_ks {d : Addr} {o : Obj} {ps : List (Nat × V)} : Walk (Itk d o (dv ps)) ps.length (fun H => H d = some (.frz o (.dK (dv ps)))) (YAt (ps.map fun p => nv p.1)) := by
  have w := walk_keys (d := d) (o := o) (kvs := dv ps)
  rw [dv_length] at w
  refine w.mono (fun _ h => h) fun i H x H' _ _ y => ?_
  obtain ⟨e, k, v, hk, rfl⟩ := y
  obtain ⟨a, h1, rfl⟩ := dv_get hk
  exact ⟨e, by rw [List.getElem?_map, h1]; rfl⟩
theorem walk_its {d : Addr} {o : Obj} {ps : List (Nat × V)} : Walk (Iti d o (dv ps)) ps.length (fun H => H d = some (.frz o (.dK (dv ps)))) (YPair (fun i => ps[i]?.map fun p => nv p.1) (fun i => ps[i]?.map (·.2))) := by
  have w := walk_items (d := d) (o := o) (kvs := dv ps)
  rw [dv_length] at w
  refine w.mono (fun _ h => h) fun i H x H' _ _ y => ?_
  obtain ⟨T, a, b, h1, h2, h3, h4, h5⟩ := y
  refine ⟨T, a, b, h1, h2, h3, ?_, ?_⟩
  · rw [← h4]
    show _ = Option.map (fun kv => kV kv.1) (dv ps)[i]?
    rw [dv, List.getElem?_map, Option.map_map]; rfl
  · rw [← h5]
    show _ = Option.map Prod.snd (dv ps)[i]?
    rw [dv, List.getElem?_map, Option.map_map]; rfl
/-- the turns of a list, by its items -/
theorem range_get {α β : Type} (F : α → Option β) (ps : List α) : (List.range ps.length).filterMap (fun i => ps[i]?.bind F) = ps.filterMap F := by
  have h : ∀ k, k ≤ ps.length → (List.range k).filterMap (fun i => ps[i]?.bind F) = (ps.take k).filterMap F := by
    intro k
    induction k with
    | zero => intro _; simp
    | succ k ih =>
      intro hk
      have hk' : k < ps.length := hk
      have e : ps[k]? = some ps[k] := List.getElem?_eq_getElem hk'
      rw [range_fm_succ, ih (Nat.le_of_lt hk'), take_succ_fm F e, e]
      rfl
  have := h ps.length (Nat.le_refl _)
  rwa [List.take_length] at this
end K35
end

section
set_option Elab.async false
set_option linter.all false
set_option maxRecDepth 100000
set_option maxHeartbeats 4000000
/-! D1: comprehensions over tables, lists, ranges. -/
namespace K35
open PySem PySem.Spec PyProof.Rows L2 CM
section
variable {K : PySem.W.Frag} {tt : TT} {tk tv te : TE} {vs : List Nat} {σ : L2.St} {HL : Hp} {Qd : Addr → Hp → Prop} {d a : Addr} {o : Obj} {i j : Nat} {ps : List (Nat × Nat)}
theorem iv_get {k : Nat} {x y : Nat} (h : ps[k]? = some (x, y)) : (iv ps)[k]? = some (x, nv y) := by rw [iv, List.getElem?_map, h]; rfl
abbrev st2 (σ : L2.St) (vs : List Nat) (i j x y : Nat) : L2.St := ((wipe σ vs).set i (some (nv x))).set j (some (nv y))
theorem tau_two {k x y : Nat} (e : ps[k]? = some (x, y)) : (((wipe σ vs).set i (some ((((iv ps)[k]?).map fun p => nv p.1).getD .non))).set j (some ((((iv ps)[k]?).map (·.2)).getD .non))) = st2 σ vs i j x y := by
  rw [iv_get e]; rfl
theorem dc_items (hL : HL d = some (.frz o (.dK (dk ps)))) (hw : ∀ a b, wipe (((wipe σ vs).set i (some a)).set j (some b)) vs = wipe σ vs) (F : Nat × Nat → Option (Nat × V)) (nd : ((ps.filterMap F).map (·.1)).Nodup) (hn : ps.length ≤ 1000)
    (ht : ∀ x y H', (x, y) ∈ ps → Same HL H' → Et tt (st2 σ vs i j x y) H' (F (x, y)).isSome)
    (hk : ∀ x y x' v H', (x, y) ∈ ps → F (x, y) = some (x', v) → Same HL H' → Ev tk (st2 σ vs i j x y) H' (nv x'))
    (hv : ∀ x y x' v H', (x, y) ∈ ps → F (x, y) = some (x', v) → Same HL H' → Ev tv (st2 σ vs i j x y) H' v)
    (q : ∀ D H', Same HL H' → HL D = none → H' D = some (.dK (dv (ps.filterMap F))) → Qd D H') : dcR (Iti d o (dk ps)) (gTup K 2 (gCons (gName i) (gCons (gName j) gNil))) tt tk tv vs σ HL Qd := by
  have w := walk_its (d := d) (o := o) (ps := iv ps)
  rw [show (iv ps).length = ps.length from List.length_map _] at w
  have g := range_get F ps
  have at_ : ∀ k, k < ps.length → ∃ x y, ps[k]? = some (x, y) ∧ (x, y) ∈ ps := fun k hk => by
    have e := List.getElem?_eq_getElem hk
    exact ⟨(ps[k]).1, (ps[k]).2, e, List.getElem_mem hk⟩
  refine dc_gen w (fun H' s => s _ _ hL) (bd_two hw) (fun k => ps[k]?.bind F) (by rw [g]; exact nd) hn (fun k H' hk' s => ?_) (fun k x' v H' hk' hF s => ?_) (fun k x' v H' hk' hF s => ?_) (by rw [g]; exact q)
  all_goals
    obtain ⟨x, y, e, hm⟩ := at_ k hk'
    rw [tau_two e]
  · rw [e]; exact ht x y H' hm s
  · rw [e] at hF; exact hk x y x' v H' hm hF s
  · rw [e] at hF; exact hv x y x' v H' hm hF s
theorem lc_items (hL : HL d = some (.frz o (.dK (dk ps)))) (hw : ∀ a b, wipe (((wipe σ vs).set i (some a)).set j (some b)) vs = wipe σ vs) (F : Nat × Nat → Option V) (hn : ps.length ≤ 1000)
    (ht : ∀ x y H', (x, y) ∈ ps → Same HL H' → Et tt (st2 σ vs i j x y) H' (F (x, y)).isSome)
    (hv : ∀ x y v H', (x, y) ∈ ps → F (x, y) = some v → Same HL H' → Ev te (st2 σ vs i j x y) H' v)
    (q : ∀ D H', Same HL H' → HL D = none → H' D = some (.lst (ps.filterMap F)) → Qd D H') : lcR (Iti d o (dk ps)) (gTup K 2 (gCons (gName i) (gCons (gName j) gNil))) tt te vs σ HL Qd := by
  have w := walk_its (d := d) (o := o) (ps := iv ps)
  rw [show (iv ps).length = ps.length from List.length_map _] at w
  have g := range_get F ps
  have at_ : ∀ k, k < ps.length → ∃ x y, ps[k]? = some (x, y) ∧ (x, y) ∈ ps := fun k hk => by
    have e := List.getElem?_eq_getElem hk
    exact ⟨(ps[k]).1, (ps[k]).2, e, List.getElem_mem hk⟩
  refine lc_gen w (fun H' s => s _ _ hL) (bd_two hw) (fun k => ps[k]?.bind F) hn (fun k H' hk' s => ?_) (fun k v H' hk' hF s => ?_) (by rw [g]; exact q)
  all_goals
    obtain ⟨x, y, e, hm⟩ := at_ k hk'
    rw [tau_two e]
  · rw [e]; exact ht x y H' hm s
  · rw [e] at hF; exact hv x y v H' hm hF s
/-- one name over plain values -/
abbrev st1 (σ : L2.St) (vs : List Nat) (i : Nat) (v : V) : L2.St := (wipe σ vs).set i (some v)
theorem dc_at {J : It} {G : Hp → Prop} {xs : List V} (w : Walk J xs.length G (YAt xs)) (hG : ∀ H', Same HL H' → G H') (hw : ∀ v, wipe ((wipe σ vs).set i (some v)) vs = wipe σ vs) (F : V → Option (Nat × V)) (nd : ((xs.filterMap F).map (·.1)).Nodup) (hn : xs.length ≤ 1000)
    (ht : ∀ x H', x ∈ xs → Same HL H' → Et tt (st1 σ vs i x) H' (F x).isSome) (hk : ∀ x x' v H', x ∈ xs → F x = some (x', v) → Same HL H' → Ev tk (st1 σ vs i x) H' (nv x')) (hv : ∀ x x' v H', x ∈ xs → F x = some (x', v) → Same HL H' → Ev tv (st1 σ vs i x) H' v)
    (q : ∀ D H', Same HL H' → HL D = none → H' D = some (.dK (dv (xs.filterMap F))) → Qd D H') : dcR J (gName i) tt tk tv vs σ HL Qd := by
  have g := range_get F xs
  refine dc_gen w hG (bd_one hw) (fun k => xs[k]?.bind F) (by rw [g]; exact nd) hn (fun k H' hk' s => ?_) (fun k x' v H' hk' hF s => ?_) (fun k x' v H' hk' hF s => ?_) (by rw [g]; exact q)
  all_goals
    have e := List.getElem?_eq_getElem hk'
    have hm := List.getElem_mem hk'
    rw [show xs.getD k .non = xs[k] from by rw [List.getD_eq_getElem?_getD, e]; rfl]
  · rw [e]; exact ht _ H' hm s
  · rw [e] at hF; exact hk _ x' v H' hm hF s
  · rw [e] at hF; exact hv _ x' v H' hm hF s
theorem lc_at {J : It} {G : Hp → Prop} {xs : List V} (w : Walk J xs.length G (YAt xs)) (hG : ∀ H', Same HL H' → G H') (hw : ∀ v, wipe ((wipe σ vs).set i (some v)) vs = wipe σ vs) (F : V → Option V) (hn : xs.length ≤ 1000)
    (ht : ∀ x H', x ∈ xs → Same HL H' → Et tt (st1 σ vs i x) H' (F x).isSome) (hv : ∀ x v H', x ∈ xs → F x = some v → Same HL H' → Ev te (st1 σ vs i x) H' v)
    (q : ∀ D H', Same HL H' → HL D = none → H' D = some (.lst (xs.filterMap F)) → Qd D H') : lcR J (gName i) tt te vs σ HL Qd := by
  have g := range_get F xs
  refine lc_gen w hG (bd_one hw) (fun k => xs[k]?.bind F) hn (fun k H' hk' s => ?_) (fun k v H' hk' hF s => ?_) (by rw [g]; exact q)
  all_goals
    have e := List.getElem?_eq_getElem hk'
    have hm := List.getElem_mem hk'
    rw [show xs.getD k .non = xs[k] from by rw [List.getD_eq_getElem?_getD, e]; rfl]
  · rw [e]; exact ht _ H' hm s
  · rw [e] at hF; exact hv _ v H' hm hF s
/-- over range(lo, lo + n) -/
theorem dc_rng {lo : Int} {n : Nat} (hw : ∀ v, wipe ((wipe σ vs).set i (some v)) vs = wipe σ vs) (F : Nat → Option (Nat × V)) (nd : (((List.range n).filterMap F).map (·.1)).Nodup) (hn : n ≤ 1000)
    (ht : ∀ k H', k < n → Same HL H' → Et tt (st1 σ vs i (.int (lo + k))) H' (F k).isSome) (hk : ∀ k x' v H', k < n → F k = some (x', v) → Same HL H' → Ev tk (st1 σ vs i (.int (lo + k))) H' (nv x'))
    (hv : ∀ k x' v H', k < n → F k = some (x', v) → Same HL H' → Ev tv (st1 σ vs i (.int (lo + k))) H' v)
    (q : ∀ D H', Same HL H' → HL D = none → H' D = some (.dK (dv ((List.range n).filterMap F))) → Qd D H') : dcR (Itr lo n) (gName i) tt tk tv vs σ HL Qd :=
  dc_gen walk_range (fun _ _ => trivial) (bd_fn hw) F nd hn ht hk hv q
theorem lc_rng {lo : Int} {n : Nat} (hw : ∀ v, wipe ((wipe σ vs).set i (some v)) vs = wipe σ vs) (F : Nat → Option V) (hn : n ≤ 1000)
    (ht : ∀ k H', k < n → Same HL H' → Et tt (st1 σ vs i (.int (lo + k))) H' (F k).isSome) (hv : ∀ k v H', k < n → F k = some v → Same HL H' → Ev te (st1 σ vs i (.int (lo + k))) H' v)
    (q : ∀ D H', Same HL H' → HL D = none → H' D = some (.lst ((List.range n).filterMap F)) → Qd D H') : lcR (Itr lo n) (gName i) tt te vs σ HL Qd :=
  lc_gen walk_range (fun _ _ => trivial) (bd_fn hw) F hn ht hv q
end
/-- entry by entry, a new pair each -/
def YDk (ps : List (Nat × Nat)) : Nat → Hp → V → Hp → Prop := fun i H v H' => ∃ T x y, v = .ref T ∧ H T = none ∧ H' = upd H T (.tup [nv x, nv y]) ∧ ps[i]? = some (x, y)
theorem walk_dk {d : Addr} {o : Obj} {ps : List (Nat × Nat)} : Walk (Iti d o (dk ps)) ps.length (fun H => H d = some (.frz o (.dK (dk ps)))) (YDk ps) := by
  have w := walk_its (d := d) (o := o) (ps := iv ps)
  rw [show (iv ps).length = ps.length from List.length_map _] at w
  refine w.mono (fun _ h => h) fun i H v H' hi _ y => ?_
  obtain ⟨T, a, b, h1, h2, h3, e1, e2⟩ := y
  have e : ps[i]? = some (ps[i].1, ps[i].2) := List.getElem?_eq_getElem hi
  have e1 : ((iv ps)[i]?).map (fun p => nv p.1) = some a := e1
  have e2 : ((iv ps)[i]?).map (fun p => p.2) = some b := e2
  rw [iv_get e] at e1 e2
  cases e1
  cases e2
  exact ⟨T, _, _, h1, h2, h3, e⟩
/-- tables of numbers among the tables -/
theorem iv_fm {α : Type} {ps : List α} {F : α → Option (Nat × Nat)} : ps.filterMap (fun p => (F p).map fun r => (r.1, nv r.2)) = iv (ps.filterMap F) := by
  rw [iv, List.map_filterMap]
theorem iv_fm_keys {α : Type} {l : List α} {F : α → Option (Nat × Nat)} : (l.filterMap (fun p => (F p).map fun r => (r.1, nv r.2))).map (·.1) = (l.filterMap F).map (·.1) := by
  rw [List.map_filterMap, List.map_filterMap]
  congr 1
  funext p
  cases F p <;> rfl
end K35
namespace K35
open PySem PySem.Spec PyProof.Rows L2 CM
theorem dv_cons (p : Nat × V) (ps : List (Nat × V)) : dv (p :: ps) = (nk p.1, p.2) :: dv ps := rfl
/-- a store in a table -/
theorem put_dv (ps : List (Nat × V)) (x : Nat) (v : V) : putK (dv ps) (nk x) v = dv (ptb ps x v) := by
  unfold ptb
  by_cases h : x ∈ ps.map (·.1)
  · rw [if_pos h]
    have ha : ((dv ps).any fun kv => decide (kv.1 = nk x)) = true := by
      rw [valV_any, valV_dv]
      cases e : lk ps x with
      | none => exact absurd h (lk_none.mp e)
      | some y => rfl
    unfold putK
    rw [if_pos ha, dv, dv, List.map_map, List.map_map]
    refine List.map_congr_left fun p _ => ?_
    show (if nk p.1 = nk x then (nk p.1, v) else (nk p.1, p.2)) = (nk (if p.1 = x then (p.1, v) else p).1, (if p.1 = x then (p.1, v) else p).2)
    by_cases e : p.1 = x
    · rw [if_pos e, if_pos (by rw [e])]
    · rw [if_neg e, if_neg (fun z => e (nk_inj z))]
  · rw [if_neg h, put_new v h]
theorem put_dk (ps : List (Nat × Nat)) (x y : Nat) : putK (dk ps) (nk x) (nv y) = dk (ptb ps x y) := by
  rw [dk, put_dv, dk, iv, iv, ptb_map]
theorem li_snoc (xs : List Nat) (y : Nat) : li (xs ++ [y]) = li xs ++ [nv y] := List.map_append
theorem li_get {xs : List Nat} {i x : Nat} (h : xs[i]? = some x) : (li xs)[i]? = some (nv x) := by rw [li, List.getElem?_map, h]; rfl
theorem li_length (xs : List Nat) : (li xs).length = xs.length := List.length_map _
section
variable {K : PySem.W.Frag} {tt : TT} {tk tv te : TE} {vs : List Nat} {σ : L2.St} {HL : Hp} {Qd : Addr → Hp → Prop} {d a : Addr} {o : Obj} {i : Nat}
theorem walk_liK {ps : List (Nat × Nat)} : Walk (Itk d o (dk ps)) (ps.map (·.1)).length (fun H => H d = some (.frz o (.dK (dk ps)))) (YAt (li (ps.map (·.1)))) := by
  have w := walk_ks (d := d) (o := o) (ps := iv ps)
  rw [show (iv ps).length = (ps.map (·.1)).length from by rw [List.length_map, List.length_map]] at w
  rw [show li (ps.map (·.1)) = (iv ps).map fun p => nv p.1 from by rw [li, iv, List.map_map, List.map_map]; rfl]
  exact w
theorem walk_liV {ps : List (Nat × Nat)} : Walk (Itd d o (dk ps)) (ps.map (·.2)).length (fun H => H d = some (.frz o (.dK (dk ps)))) (YAt (li (ps.map (·.2)))) := by
  have w := walk_vals (d := d) (o := o) (ps := iv ps)
  rw [show (iv ps).length = (ps.map (·.2)).length from by rw [List.length_map, List.length_map]] at w
  rw [show li (ps.map (·.2)) = (iv ps).map (·.2) from by rw [li, iv, List.map_map, List.map_map]; rfl]
  exact w
theorem walk_li {ns : List Nat} : Walk (Itl K a) ns.length (fun H => SqL K H a (li ns)) (YAt (li ns)) := by
  have w := walk_list (K := K) (a := a) (xs := li ns)
  rwa [li_length] at w
theorem dc_li {J : It} {G : Hp → Prop} {ns : List Nat} (w : Walk J ns.length G (YAt (li ns))) (hG : ∀ H', Same HL H' → G H') (hw : ∀ v, wipe ((wipe σ vs).set i (some v)) vs = wipe σ vs) (F : Nat → Option (Nat × V)) (nd : ((ns.filterMap F).map (·.1)).Nodup) (hn : ns.length ≤ 1000)
    (ht : ∀ x H', x ∈ ns → Same HL H' → Et tt (st1 σ vs i (nv x)) H' (F x).isSome) (hk : ∀ x x' v H', x ∈ ns → F x = some (x', v) → Same HL H' → Ev tk (st1 σ vs i (nv x)) H' (nv x')) (hv : ∀ x x' v H', x ∈ ns → F x = some (x', v) → Same HL H' → Ev tv (st1 σ vs i (nv x)) H' v)
    (q : ∀ D H', Same HL H' → HL D = none → H' D = some (.dK (dv (ns.filterMap F))) → Qd D H') : dcR J (gName i) tt tk tv vs σ HL Qd := by
  have g := range_get F ns
  refine dc_gen w hG (bd_one hw) (fun k => ns[k]?.bind F) (by rw [g]; exact nd) hn (fun k H' hk' s => ?_) (fun k x' v H' hk' hF s => ?_) (fun k x' v H' hk' hF s => ?_) (by rw [g]; exact q)
  all_goals
    have e := List.getElem?_eq_getElem hk'
    have hm := List.getElem_mem hk'
    rw [show (li ns).getD k .non = nv ns[k] from by rw [List.getD_eq_getElem?_getD, li_get e]; rfl]
  · rw [e]; exact ht _ H' hm s
  · rw [e] at hF; exact hk _ x' v H' hm hF s
  · rw [e] at hF; exact hv _ x' v H' hm hF s
theorem lc_li {J : It} {G : Hp → Prop} {ns : List Nat} (w : Walk J ns.length G (YAt (li ns))) (hG : ∀ H', Same HL H' → G H') (hw : ∀ v, wipe ((wipe σ vs).set i (some v)) vs = wipe σ vs) (F : Nat → Option V) (hn : ns.length ≤ 1000)
    (ht : ∀ x H', x ∈ ns → Same HL H' → Et tt (st1 σ vs i (nv x)) H' (F x).isSome) (hv : ∀ x v H', x ∈ ns → F x = some v → Same HL H' → Ev te (st1 σ vs i (nv x)) H' v)
    (q : ∀ D H', Same HL H' → HL D = none → H' D = some (.lst (ns.filterMap F)) → Qd D H') : lcR J (gName i) tt te vs σ HL Qd := by
  have g := range_get F ns
  refine lc_gen w hG (bd_one hw) (fun k => ns[k]?.bind F) hn (fun k H' hk' s => ?_) (fun k v H' hk' hF s => ?_) (by rw [g]; exact q)
  all_goals
    have e := List.getElem?_eq_getElem hk'
    have hm := List.getElem_mem hk'
    rw [show (li ns).getD k .non = nv ns[k] from by rw [List.getD_eq_getElem?_getD, li_get e]; rfl]
  · rw [e]; exact ht _ H' hm s
  · rw [e] at hF; exact hv _ v H' hm hF s
end
/-- an enumerated list of numbers -/
theorem walk_enumN {K : PySem.W.Frag} {a : Addr} {ns : List Nat} : Walk (Ite K a) ns.length (fun H => SqL K H a (li ns)) (fun i H v H' => ∃ T x, v = .ref T ∧ H T = none ∧ H' = upd H T (.tup [nv i, nv x]) ∧ ns[i]? = some x) := by
  have w := walk_enum (K := K) (a := a) (xs := li ns)
  rw [li_length] at w
  refine w.mono (fun _ h => h) fun i H v H' hi _ y => ?_
  obtain ⟨T, x, z, h1, h2, h3, h4, h5⟩ := y
  have e := List.getElem?_eq_getElem hi
  have h4 : some (V.int (i : Nat)) = some x := h4
  have h5 : (li ns)[i]? = some z := h5
  rw [li_get e] at h5
  cases h4
  cases h5
  exact ⟨T, ns[i], h1, h2, h3, e⟩
theorem take_last {r : List Nat} {l : Nat} (hp : 0 < r.length) (h : r[r.length - 1]? = some l) : r = r.take (r.length - 1) ++ [l] := by
  have e : r.take (r.length - 1 + 1) = r.take (r.length - 1) ++ [l] := by rw [List.take_succ, h]; rfl
  rw [show r.length - 1 + 1 = r.length by omega, List.take_length] at e
  exact e
theorem atI_m1 {r : List Nat} {l : Nat} (hp : 0 < r.length) (h : r[r.length - 1]? = some l) : atI (li r) (-1) = some (nv l) := by
  rw [take_last hp h, li_snoc]; exact atI_last _ _
theorem atI_li {r : List Nat} {i y : Nat} (h : r[i]? = some y) : atI (li r) (i : Int) = some (nv y) := atI_nat (li_get h)
theorem walk_range0 {n : Nat} : Walk (Itr 0 n) n (fun _ => True) (YFn nv) :=
  walk_range.mono (fun _ h => h) fun i H x H' _ _ y => ⟨y.1, by rw [y.2]; show V.int (0 + (i : Int)) = V.int (i : Int); rw [Int.zero_add]⟩
end K35
namespace K35
open PySem PySem.Spec PyProof.Rows L2 CM
/-- over a list of rows -/
theorem lc_rows {K : PySem.W.Frag} {tt : TT} {te : TE} {vs : List Nat} {σ : L2.St} {HL : Hp} {Qd : Addr → Hp → Prop} {a : Addr} {i : Nat} {qs : List (Addr × List Nat)} (ha : HL a = some (.lst (qs.map fun q => V.ref q.1))) (hw : ∀ v, wipe ((wipe σ vs).set i (some v)) vs = wipe σ vs) (F : Addr × List Nat → Option V) (hn : qs.length ≤ 1000)
    (ht : ∀ q H', q ∈ qs → Same HL H' → Et tt (st1 σ vs i (.ref q.1)) H' (F q).isSome) (hv : ∀ q v H', q ∈ qs → F q = some v → Same HL H' → Ev te (st1 σ vs i (.ref q.1)) H' v)
    (q : ∀ D H', Same HL H' → HL D = none → H' D = some (.lst (qs.filterMap F)) → Qd D H') : lcR (Itl K a) (gName i) tt te vs σ HL Qd := by
  have g := range_get F qs
  have w := walk_list (K := K) (a := a) (xs := qs.map fun q => V.ref q.1)
  rw [List.length_map] at w
  refine lc_gen w (fun H' s => SqL.of (s _ _ ha)) (bd_one hw) (fun k => qs[k]?.bind F) hn (fun k H' hk' s => ?_) (fun k v H' hk' hF s => ?_) (by rw [g]; exact q)
  all_goals
    have e := List.getElem?_eq_getElem hk'
    have hm := List.getElem_mem hk'
    rw [show (qs.map fun q => V.ref q.1).getD k .non = .ref qs[k].1 from by rw [List.getD_eq_getElem?_getD, List.getElem?_map, e]; rfl]
  · rw [e]; exact ht _ H' hm s
  · rw [e] at hF; exact hv _ v H' hm hF s
end K35
end

section
set_option Elab.async false
set_option linter.all false
set_option maxRecDepth 100000
set_option maxHeartbeats 4000000
/-! W1: the checks, a map's data, its attributes. -/
namespace K35
open PySem PySem.Spec PyProof.Rows L2 CM
/-! ### a map on the heap -/
theorem ks_a : ¬ (("own_size" : Str) = "own_arrows") := by decide +kernel
def fM (n : Nat) (d : Addr) : List (Str × V) := putF "own_arrows" (.ref d) (putF "own_size" (nv n) [])
theorem fM_eq (n : Nat) (d : Addr) : fM n d = ([("own_size", nv n), ("own_arrows", V.ref d)] : List (Str × V)) := by
  show (if ("own_size" : Str) = "own_arrows" then [(("own_size" : Str), V.ref d)] else (("own_size" : Str), nv n) :: putF "own_arrows" (V.ref d) []) = _
  rw [if_neg ks_a]
  rfl
theorem fM_arrows (n : Nat) (d : Addr) : (fM n d).lookup ("own_arrows" : Str) = some (.ref d) := by
  unfold fM
  rw [lookup_putF, if_pos rfl]
theorem fM_size (n : Nat) (d : Addr) : (fM n d).lookup ("own_size" : Str) = some (nv n) := by
  unfold fM
  rw [lookup_putF, if_neg (fun z => ks_a z), lookup_putF, if_pos rfl]
theorem fM_no (n : Nat) (d : Addr) {m : Str} (h1 : ¬ m = "own_arrows") (h2 : ¬ m = "own_size") : (fM n d).lookup m = none := by
  unfold fM
  rw [lookup_putF, if_neg h1, lookup_putF, if_neg h2]
  rfl
structure MapAt (K : PySem.W.Frag) (H : Hp) (p : Addr) (n : Nat) (f : PF) : Prop where
  ob : ∃ dx d, H p = some (.ins (C_Map K) dx (fM n d)) ∧ H d = some (.dK (dk (arr n f)))
  pi : PI n f
  n1 : 1 ≤ n
  n2 : n ≤ 12
theorem MapAt.same {K : PySem.W.Frag} {H H' : Hp} {p : Addr} {n : Nat} {f : PF} (m : MapAt K H p n f) (s : Same H H') : MapAt K H' p n f := by
  obtain ⟨dx, d, h1, h2⟩ := m.ob
  exact ⟨⟨dx, d, s _ _ h1, s _ _ h2⟩, m.pi, m.n1, m.n2⟩
theorem MapAt.small {K : PySem.W.Frag} {H : Hp} {p : Addr} {n : Nat} {f : PF} (m : MapAt K H p n f) : (arr n f).length ≤ 12 := Nat.le_trans (arr_len n f) m.n2
section
variable {P : Program} {w : World} {K : PySem.W.Frag} {mg : Str → Option Value} {base : Heap}
/-! ### numbers -/
def sp_is_integer : Sp := fun vs H Q _ => ∃ i : Int, vs = [.int i] ∧ Q (.bl true) H
theorem ok_is_integer (T : Txt K mg base) : Okd P w K mg base 1 (a_is_integer K) sp_is_integer := by
  refine okd (d := d_is_integer) T 0 rfl rfl sc_is_integer (fun _ _ _ _ _ _ us hl => match us, hl with | [_], _ => rfl) (fun vs H Q E h => ?_) (fun cdv A outer s H vs Q E hr h => ?_)
  · obtain ⟨i, rfl, _⟩ := h; rfl
  obtain ⟨i, rfl, q⟩ := h
  refine ⟨_, (pss_one (ps_ret (pe_and (pe_callB call_isi rfl T.f_isinstance (by decide +kernel) (pa_cons (pv 0) (pa_cons (pe_bltn rfl T.f_int (by decide +kernel) (show RelV (.ty "int") _ from rfl)) pa_nil))) (pe_one (pe_not (pe_callB call_isi rfl T.f_isinstance (by decide +kernel) (pa_cons (pv 0) (pa_cons (pe_bltn rfl T.f_bool (by decide +kernel) (show RelV (.ty "bool") _ from rfl)) pa_nil)))))))), ?_⟩
  refine ⟨_, rfl, _, .ty "int", .type "int", .type "int", true, rfl, .ty "int", .base (.int i), kit_ty (by decide +kernel), ?_⟩
  refine ⟨true, rfl, iteT ?_⟩
  refine ⟨_, rfl, _, .ty "bool", .type "int", .type "bool", false, rfl, .ty "bool", .base (.int i), kit_ty (by decide +kernel), ?_⟩
  exact ⟨false, rfl, q⟩
def sp_in_range : Sp := fun vs H Q _ => ∃ v a b : Int, vs = [.int v, .int a, .int b] ∧ Q (.bl (decide (a ≤ v) && decide (v ≤ b))) H
theorem ok_in_range (T : Txt K mg base) : Okd P w K mg base 2 (a_in_range K) sp_in_range := by
  refine okd (d := d_in_range) T 1 rfl rfl sc_in_range (fun _ _ _ _ _ _ us hl => match us, hl with | [_, _, _], _ => rfl) (fun vs H Q E h => ?_) (fun cdv A outer s H vs Q E hr h => ?_)
  · obtain ⟨i, _, _, rfl, _⟩ := h; rfl
  obtain ⟨v, a, b, rfl, q⟩ := h
  refine ⟨_, (pss_one (ps_ret (pe_and (pe_cD (ok_is_integer T) (hr.mono (by decide)) T.g_is_integer (pa_cons (pv 0) pa_nil)) (pe_one (pe_chain op_le op_le (pv 1) (pv 0) (pv 2)))))), ?_⟩
  refine ⟨_, rfl, v, rfl, true, rfl, iteT ?_⟩
  refine ⟨_, rfl, _, rfl, _, _, rfl, rfl, _, rfl, ?_⟩
  by_cases e : a ≤ v
  · rw [decide_eq_true e] at q ⊢
    exact iteT ⟨_, rfl, _, _, rfl, rfl, q⟩
  · rw [decide_eq_false e] at q ⊢
    exact iteF q
def sp_check_size : Sp := fun vs H Q _ => ∃ n : Nat, vs = [nv n] ∧ 1 ≤ n ∧ n ≤ 12 ∧ Q .non H
theorem ok_check_size (T : Txt K mg base) : Okd P w K mg base 3 (a_check_size K) sp_check_size := by
  refine okd (d := d_check_size) T 2 rfl rfl sc_check_size (fun _ _ _ _ _ _ us hl => match us, hl with | [_], _ => rfl) (fun vs H Q E h => ?_) (fun cdv A outer s H vs Q E hr h => ?_)
  · obtain ⟨i, rfl, _⟩ := h; rfl
  obtain ⟨n, rfl, h1, h2, q⟩ := h
  refine ⟨_, (pss_one (ps_if (pt_not (pt_val (pe_cD (ok_in_range T) (hr.mono (by decide)) T.g_in_range (pa_cons (pv 0) (pa_cons pe_int (pa_cons (pe_glob rfl T.i_MAX_SIZE.choose_spec.1 T.i_MAX_SIZE.choose_spec.2) pa_nil)))))) (pss_one ps_never) pss_nil)), ?_⟩
  refine ⟨_, rfl, _, _, _, rfl, true, ?_, iteF q⟩
  rw [decide_eq_true (show (1 : Int) ≤ n by omega), decide_eq_true (show (n : Int) ≤ 300 by omega)]; rfl
/-! ### attributes -/
def sp_Map_size (K : PySem.W.Frag) : Sp := fun vs H Q _ => ∃ p n f, vs = [.ref p] ∧ MapAt K H p n f ∧ Q (nv n) H
theorem ok_Map_size (T : Txt K mg base) : Okd P w K mg base 1 (a_Map_size K) (sp_Map_size K) := by
  refine okd (d := d_Map_size) T 10 rfl rfl sc_Map_size (fun _ _ _ _ _ _ us hl => match us, hl with | [_], _ => rfl) (fun vs H Q E h => ?_) (fun cdv A outer s H vs Q E hr h => ?_)
  · obtain ⟨p, n, f, rfl, _⟩ := h; rfl
  obtain ⟨p, n, f, rfl, m, q⟩ := h
  obtain ⟨dx, d, h1, h2⟩ := m.ob
  exact ⟨_, (pss_one (ps_ret (pe_fld (pv 0) rfl))), _, rfl, p, _, dx, _, _, rfl, h1, T.cl_Map, T.n_Map_own_size, fM_size _ _, q⟩
def sp_Map_arrows (K : PySem.W.Frag) : Sp := fun vs H Q _ => ∃ p n f, vs = [.ref p] ∧ MapAt K H p n f ∧ ∀ d, H d = none → Q (.ref d) (upd H d (.dK (dk (arr n f))))
theorem ok_Map_arrows (T : Txt K mg base) : Okd P w K mg base 1 (a_Map_arrows K) (sp_Map_arrows K) := by
  refine okd (d := d_Map_arrows) T 11 rfl rfl sc_Map_arrows (fun _ _ _ _ _ _ us hl => match us, hl with | [_], _ => rfl) (fun vs H Q E h => ?_) (fun cdv A outer s H vs Q E hr h => ?_)
  · obtain ⟨p, n, f, rfl, _⟩ := h; rfl
  obtain ⟨p, n, f, rfl, m, q⟩ := h
  obtain ⟨dx, d, h1, h2⟩ := m.ob
  exact ⟨_, (pss_one (ps_ret (pe_callTy call_dictD rfl T.f_dict (by decide +kernel) (pa_cons (pe_fld (pv 0) rfl) pa_nil)))), _, rfl, p, _, dx, _, _, rfl, h1, T.cl_Map, T.n_Map_own_arrows, fM_arrows _ _, _, _, rfl, .inl h2, q⟩
def sp_Map_len (K : PySem.W.Frag) : Sp := fun vs H Q _ => ∃ p n f, vs = [.ref p] ∧ MapAt K H p n f ∧ Q (nv (arr n f).length) H
theorem ok_Map_len (T : Txt K mg base) : Okd P w K mg base 1 (a_Map_len K) (sp_Map_len K) := by
  refine okd (d := d_Map_len) T 18 rfl rfl sc_Map_len (fun _ _ _ _ _ _ us hl => match us, hl with | [_], _ => rfl) (fun vs H Q E h => ?_) (fun cdv A outer s H vs Q E hr h => ?_)
  · obtain ⟨p, n, f, rfl, _⟩ := h; rfl
  obtain ⟨p, n, f, rfl, m, q⟩ := h
  obtain ⟨dx, d, h1, h2⟩ := m.ob
  refine ⟨_, (pss_one (ps_ret (pe_callB call_lenD rfl T.f_len (by decide +kernel) (pa_cons (pe_fld (pv 0) rfl) pa_nil)))), _, rfl, p, _, dx, _, _, rfl, h1, T.cl_Map, T.n_Map_own_arrows, fM_arrows _ _, _, _, rfl, h2, ?_⟩
  rw [dk_length]; exact q
def sp_common_size (K : PySem.W.Frag) : Sp := fun vs H Q _ => ∃ p r n f g, vs = [.ref p, .ref r] ∧ MapAt K H p n f ∧ MapAt K H r n g ∧ Q (nv n) H
theorem ok_common_size (T : Txt K mg base) : Okd P w K mg base 3 (a_common_size K) (sp_common_size K) := by
  refine okd (d := d_common_size) T 5 rfl rfl sc_common_size (fun _ _ _ _ _ _ us hl => match us, hl with | [_, _], _ => rfl) (fun vs H Q E h => ?_) (fun cdv A outer s H vs Q E hr h => ?_)
  · obtain ⟨p, r, n, f, g, rfl, _⟩ := h; rfl
  obtain ⟨p, r, n, f, g, rfl, m, m', q⟩ := h
  obtain ⟨dx, d, h1, h2⟩ := m.ob
  obtain ⟨dx', d', h1', h2'⟩ := m'.ob
  refine ⟨_, (pss_cons (ps_if (pt_cmpR op_ne (pe_prD (ok_Map_size T) (hr.mono (by decide)) T.cl_Map T.p_Map_size (pv 0)) (pe_prD (ok_Map_size T) (hr.mono (by decide)) T.cl_Map T.p_Map_size (pv 1)) (nomark _)) (pss_one ps_never) pss_nil)
      (pss_one (ps_ret (pe_prD (ok_Map_size T) (hr.mono (by decide)) T.cl_Map T.p_Map_size (pv 0))))), ?_⟩
  refine ⟨_, rfl, p, dx, _, rfl, h1, p, n, f, rfl, m, ?_⟩
  refine ⟨_, rfl, r, dx', _, rfl, h1', r, n, g, rfl, m', ?_⟩
  refine ⟨rfl, false, by rw [decide_eq_true rfl]; rfl, iteF ?_⟩
  exact ⟨_, rfl, p, dx, _, rfl, h1, p, n, f, rfl, m, q⟩
def sp_check_map (K : PySem.W.Frag) : Sp := fun vs H Q _ => ∃ p n f, vs = [.ref p] ∧ MapAt K H p n f ∧ Q .non H
theorem ok_check_map (T : Txt K mg base) : Okd P w K mg base 1 (a_check_map K) (sp_check_map K) := by
  refine okd (d := d_check_map) T 22 rfl rfl sc_check_map (fun _ _ _ _ _ _ us hl => match us, hl with | [_], _ => rfl) (fun vs H Q E h => ?_) (fun cdv A outer s H vs Q E hr h => ?_)
  · obtain ⟨p, n, f, rfl, _⟩ := h; rfl
  obtain ⟨p, n, f, rfl, m, q⟩ := h
  obtain ⟨dx, d, h1, h2⟩ := m.ob
  refine ⟨_, (pss_one (ps_if (pt_not (pt_val (pe_callB call_isi rfl T.f_isinstance (by decide +kernel) (pa_cons (pv 0) (pa_cons (pe_glob (v := .ref (C_Map K)) rfl T.g_Map rfl) pa_nil))))) (pss_one ps_never) pss_nil)), ?_⟩
  exact ⟨_, rfl, _, .ref (C_Map K), .ref (C_Map K), .ref (C_Map K), true, rfl, .own _, .base (T.ty_Map h1), by unfold PySem.W.kitOne; simp, true, rfl, iteF q⟩
def sp_check_maps (K : PySem.W.Frag) : Sp := fun vs H Q _ => ∃ p r n f g, vs = [.ref p, .ref r] ∧ MapAt K H p n f ∧ MapAt K H r n g ∧ Q .non H
theorem ok_check_maps (T : Txt K mg base) : Okd P w K mg base 4 (a_check_maps K) (sp_check_maps K) := by
  refine okd (d := d_check_maps) T 23 rfl rfl sc_check_maps (fun _ _ _ _ _ _ us hl => match us, hl with | [_, _], _ => rfl) (fun vs H Q E h => ?_) (fun cdv A outer s H vs Q E hr h => ?_)
  · obtain ⟨p, r, n, f, g, rfl, _⟩ := h; rfl
  obtain ⟨p, r, n, f, g, rfl, m, m', q⟩ := h
  refine ⟨_, (pss_cons (ps_expr (pe_cD (ok_check_map T) (hr.mono (by decide)) T.g_check_map (pa_cons (pv 0) pa_nil)))
      (pss_cons (ps_expr (pe_cD (ok_check_map T) (hr.mono (by decide)) T.g_check_map (pa_cons (pv 1) pa_nil)))
      (pss_one (ps_expr (pe_cD (ok_common_size T) (hr.mono (by decide)) T.g_common_size (pa_cons (pv 0) (pa_cons (pv 1) pa_nil))))))), ?_⟩
  exact ⟨_, rfl, p, n, f, rfl, m, _, rfl, r, n, g, rfl, m', _, rfl, _, rfl, p, r, n, f, g, rfl, m, m', q⟩
def sp_Map_is_source (K : PySem.W.Frag) : Sp := fun vs H Q _ => ∃ p n f x, vs = [.ref p, nv x] ∧ MapAt K H p n f ∧ Q (.bl (f x).isSome) H
theorem ok_Map_is_source (T : Txt K mg base) : Okd P w K mg base 3 (a_Map_is_source K) (sp_Map_is_source K) := by
  refine okd (d := d_Map_is_source) T 20 rfl rfl sc_Map_is_source (fun _ _ _ _ _ _ us hl => match us, hl with | [_, _], _ => rfl) (fun vs H Q E h => ?_) (fun cdv A outer s H vs Q E hr h => ?_)
  · obtain ⟨p, n, f, x, rfl, _⟩ := h; rfl
  obtain ⟨p, n, f, x, rfl, m, q⟩ := h
  obtain ⟨dx, d, h1, h2⟩ := m.ob
  refine ⟨_, (pss_one (ps_ret (pe_and (pe_cD (ok_in_range T) (hr.mono (by decide)) T.g_in_range (pa_cons (pv 1) (pa_cons pe_int (pa_cons (pe_op op_sub (pe_fld (pv 0) rfl) pe_int) pa_nil)))) (pe_one (pe_cmp (pc_din (hu_of hr) (pv 1) (pe_fld (pv 0) rfl))))))), ?_⟩
  refine ⟨_, rfl, _, rfl, p, _, dx, _, _, rfl, h1, T.cl_Map, T.n_Map_own_size, fM_size _ _, _, _, rfl, rfl, _, _, _, rfl, _, rfl, ?_⟩
  rw [decide_eq_true (show (0 : Int) ≤ x by omega), Bool.true_and]
  by_cases e : x < n
  · rw [decide_eq_true (show (x : Int) ≤ n - 1 by omega)]
    refine iteT ⟨_, rfl, _, rfl, p, _, dx, _, _, rfl, h1, T.cl_Map, T.n_Map_own_arrows, fM_arrows _ _, d, _, rfl, dgetR (.inl h2) (arr_rep m.pi) rfl, ?_⟩
    rw [Option.isSome_map]; exact q
  · rw [decide_eq_false (show ¬ (x : Int) ≤ n - 1 by omega)]
    rw [m.pi.none_of (by omega)] at q
    exact iteF q
def sp_Map_getitem (K : PySem.W.Frag) : Sp := fun vs H Q _ => ∃ p n f x y, vs = [.ref p, nv x] ∧ MapAt K H p n f ∧ f x = some y ∧ Q (nv y) H
theorem ok_Map_getitem (T : Txt K mg base) : Okd P w K mg base 4 (a_Map_getitem K) (sp_Map_getitem K) := by
  refine okd (d := d_Map_getitem) T 17 rfl rfl sc_Map_getitem (fun _ _ _ _ _ _ us hl => match us, hl with | [_, _], _ => rfl) (fun vs H Q E h => ?_) (fun cdv A outer s H vs Q E hr h => ?_)
  · obtain ⟨p, n, f, x, y, rfl, _⟩ := h; rfl
  obtain ⟨p, n, f, x, y, rfl, m, e, q⟩ := h
  obtain ⟨dx, d, h1, h2⟩ := m.ob
  refine ⟨_, (pss_cons (ps_if (pt_not (pt_val (pe_mD (ok_Map_is_source T) (hr.mono (by decide)) T.cl_Map T.m_Map_is_source (pv 0) (pa_cons (pv 1) pa_nil)))) (pss_one ps_never) pss_nil)
      (pss_one (ps_ret (pe_dget (hu_of hr) (pe_fld (pv 0) rfl) (pv 1) (fun _ _ => rfl))))), ?_⟩
  refine ⟨_, rfl, p, dx, _, rfl, h1, fM_no _ _ (by decide +kernel) (by decide +kernel), _, rfl, p, n, f, x, rfl, m, true, by rw [e]; rfl, iteF ?_⟩
  exact ⟨_, rfl, p, _, dx, _, _, rfl, h1, T.cl_Map, T.n_Map_own_arrows, fM_arrows _ _, _, rfl, d, _, rfl, dgetR (.inl h2) (arr_rep m.pi) (by rw [e]; rfl), q⟩
end
end K35
end

section
set_option Elab.async false
set_option linter.all false
set_option maxRecDepth 100000
set_option maxHeartbeats 4000000
/-! W2: a map is made; its operators. -/
namespace K35
open PySem PySem.Spec PyProof.Rows L2 CM
theorem filterMap_congr' {α β : Type} {F G : α → Option β} {l : List α} (h : ∀ x ∈ l, F x = G x) : l.filterMap F = l.filterMap G := by
  induction l with
  | nil => rfl
  | cons a l ih =>
    rw [List.filterMap_cons, List.filterMap_cons, h a List.mem_cons_self, ih fun x hx => h x (List.mem_cons_of_mem _ hx)]
/-- a table of numbers stands at d -/
def DkAt (H : Hp) (d : Addr) (ps : List (Nat × Nat)) : Prop := H d = some (.dK (dk ps))
section
variable {P : Program} {w : World} {K : PySem.W.Frag} {mg : Str → Option Value} {base : Heap}
/-- bools by number -/
abbrev bv (xs : List Nat) : List (Nat × V) := xs.map fun x => (x, V.bl true)
theorem bv_keys (xs : List Nat) : (bv xs).map (·.1) = xs := by rw [bv, List.map_map]; exact List.map_id xs
theorem bv_snoc (xs : List Nat) (y : Nat) : bv (xs ++ [y]) = bv xs ++ [(y, V.bl true)] := List.map_append
theorem lk_bv {xs : List Nat} {x : Nat} : (lk (bv xs) x).isSome = decide (x ∈ xs) := by
  by_cases h : x ∈ xs
  · cases e : lk (bv xs) x with
    | none => exact absurd h (by have := lk_none.mp e; rwa [bv_keys] at this)
    | some y => simp [h]
  · rw [lk_none.mpr (by rw [bv_keys]; exact h)]; simp [h]
def sp_are_arrows : Sp := fun vs H Q _ => ∃ (n : Nat) (d : Addr) (ps : List (Nat × Nat)) (f : PF), vs = [nv n, .ref d] ∧ H d = some (.dK (dk ps)) ∧ Rep ps f ∧ PI n f ∧ n ≤ 12 ∧ ∀ H', Same H H' → Q (.bl true) H'
theorem ok_are_arrows (T : Txt K mg base) : Okd P w K mg base 3 (a_are_arrows K) sp_are_arrows := by
  refine okd (d := d_are_arrows) T 4 rfl rfl sc_are_arrows (fun _ _ _ _ _ _ us hl => match us, hl with | [_, _], _ => rfl) (fun vs H Q E h => ?_) (fun cdv A outer s H vs Q E hr h => ?_)
  · obtain ⟨n, d, ps, f, rfl, _⟩ := h; rfl
  obtain ⟨n, d, ps, f, rfl, hd, R, pi, n2, q⟩ := h
  refine ⟨_, (pss_cons (ps_if (pt_not (pt_val (pe_callB call_isi rfl T.f_isinstance (by decide +kernel) (pa_cons (pv 1) (pa_cons (pe_bltn rfl T.f_dict (by decide +kernel) (show RelV (.ty "dict") _ from rfl)) pa_nil))))) (pss_one (ps_ret pe_bl)) pss_nil)
      (pss_cons (ps_set (i := 2) sc_are_arrows.nd rfl (Or.inl rfl) pe_dnewK)
      (pss_cons (ps_lock (ps_for PassesOwn.never rfl (pi_items (pv 1)) (pg_tup rfl (pgs_cons (pg_name (i := 3) sc_are_arrows.nd rfl (Or.inl rfl)) (pgs_cons (pg_name (i := 4) sc_are_arrows.nd rfl (Or.inl rfl)) pgs_nil)))
      (pss_cons (ps_if (PW.pt (pw_or (pt_not (pt_val (pe_cD (ok_in_range T) (hr.mono (by decide)) T.g_in_range (pa_cons (pv 3) (pa_cons pe_int (pa_cons (pe_op op_sub (pv 0) pe_int) pa_nil)))))) (pw_or (pt_not (pt_val (pe_cD (ok_in_range T) (hr.mono (by decide)) T.g_in_range (pa_cons (pv 4) (pa_cons pe_int (pa_cons (pe_op op_sub (pv 0) pe_int) pa_nil)))))) (pw_or1 (pt_cmp (pc_din (hu_of hr) (pv 4) (pv 2))))))) (pss_one (ps_ret pe_bl)) pss_nil)
      (pss_one (ps_dput (hu_of hr) (pv 2) (pv 4) pe_bl rfl)))))
      (pss_one (ps_ret pe_bl))))), ?_⟩
  refine ⟨_, rfl, _, .ty "dict", .type "dict", .type "dict", true, rfl, .ty "dict", .base (.dK hd), kit_ty (by decide +kernel), true, rfl, iteF ?_⟩
  intro t ht
  have ntd : d ≠ t := ne_of_none hd ht
  refine ⟨d, .dK (dk ps), by rw [upd_ne ntd]; exact hd, True.intro, fun od => ?_⟩
  refine ⟨_, rfl, d, od, _, rfl, upd_same, ?_⟩
  have hl : ps.length ≤ 12 := Nat.le_trans (R.len pi) n2
  have s0 : Same (upd H d (.frz od (.dK (dk ps)))) (upd (upd H t (.dK [])) d (.frz od (.dK (dk ps)))) := fun b o e => by
    by_cases hb : b = d
    · subst hb; rw [upd_same] at e ⊢; exact e
    · rw [upd_ne hb] at e ⊢; rw [upd_ne (ne_of_none e ht)]; exact e
  refine for_it walk_dk (fun i σ H' => ∃ a b, σ = [some (nv n), some (.ref d), some (.ref t), a, b] ∧ Same (upd H d (.frz od (.dK (dk ps)))) H' ∧ H' t = some (.dK (dv (bv ((ps.take i).map (·.2))))))
    ⟨none, none, rfl, s0, by rw [upd_ne ntd.symm, upd_same]; rfl⟩ (fun i σ H' _ ⟨a, b, _, s, _⟩ => s _ _ upd_same) ?_ ?_
  · rintro i x σ H1 H2 hi ⟨a, b, rfl, s, h2⟩ ⟨U, x, y, rfl, hU, rfl, e⟩
    have hm := List.mem_of_getElem? e
    have lt := pi.dom (R.mem.mp hm)
    refine ⟨U, _, rfl, SqT.of upd_same, rfl, _, _, rfl, _, _, rfl, rfl, ?_⟩
    have h2' : (upd H1 U (.tup [nv x, nv y])) t = some (.dK (dv (bv ((ps.take i).map (·.2))))) := by rw [upd_ne (ne_of_none h2 hU)]; exact h2
    have ny : y ∉ (ps.take i).map (·.2) := by
      have := nodup_take (R.vals pi) (show (ps.map (·.2))[i]? = some y by rw [List.getElem?_map, e]; rfl)
      rwa [← List.map_take] at this
    refine ⟨_, rfl, _, rfl, _, _, rfl, rfl, _, _, _, rfl, true, ?_, iteF ?_⟩
    · rw [decide_eq_true (show (0 : Int) ≤ x by omega), decide_eq_true (show (x : Int) ≤ n - 1 by omega)]; rfl
    refine ⟨_, rfl, _, rfl, _, _, rfl, rfl, _, _, _, rfl, true, ?_, iteF ?_⟩
    · rw [decide_eq_true (show (0 : Int) ≤ y by omega), decide_eq_true (show (y : Int) ≤ n - 1 by omega)]; rfl
    refine ⟨_, rfl, _, rfl, t, _, rfl, dget (.inl h2') rfl, _, rfl, ?_⟩
    rw [lk_bv, decide_eq_false ny]
    refine iteF ?_
    have hz : H1 d = some (.frz od (.dK (dk ps))) := s _ _ upd_same
    have tn : (upd H d (.frz od (.dK (dk ps)))) t = none := by rw [upd_ne ntd.symm]; exact ht
    refine ⟨_, rfl, _, rfl, t, _, rfl, DPut.k (k := nk y) h2' ?_, _, _, rfl, same_at (same_new s hU) tn, ?_⟩
    · rw [dv_length, List.length_map, List.length_map]
      exact small12 (Nat.le_trans (List.length_take_le _ _) (by omega))
    · rw [upd_same, put_new _ (by rw [bv_keys]; exact ny), take_succ_map (·.2) e, bv_snoc]
  · rintro σ H' ⟨a, b, rfl, s, _⟩
    exact ⟨s _ _ upd_same, q _ (lock_back hd s)⟩
def sp_Map_init (K : PySem.W.Frag) : Sp := fun vs H Q _ => ∃ (p dx : Addr) (n : Nat) (d : Addr) (ps : List (Nat × Nat)) (f : PF), vs = [.ref p, nv n, .ref d] ∧ H p = some (.ins (C_Map K) dx []) ∧ H d = some (.dK (dk ps)) ∧ Rep ps f ∧ PI n f ∧ 1 ≤ n ∧ n ≤ 12 ∧
  ∀ H', (∀ b o, H b = some o → b ≠ p → H' b = some o) → MapAt K H' p n f → Q .non H'
theorem ok_Map_init (T : Txt K mg base) : Okd P w K mg base 4 (a_Map_init K) (sp_Map_init K) := by
  refine okd (d := d_Map_init) T 8 rfl rfl sc_Map_init (fun _ _ _ _ _ _ us hl => match us, hl with | [_, _, _], _ => rfl) (fun vs H Q E h => ?_) (fun cdv A outer s H vs Q E hr h => ?_)
  · obtain ⟨p, dx, n, d, ps, f, rfl, _⟩ := h; rfl
  obtain ⟨p, dx, n, d, ps, f, rfl, hp, hd, R, pi, n1, n2, q⟩ := h
  refine ⟨_, (pss_cons (ps_if (pt_not (pt_val (pe_cD (ok_in_range T) (hr.mono (by decide)) T.g_in_range (pa_cons (pv 1) (pa_cons pe_int (pa_cons (pe_glob rfl T.i_MAX_SIZE.choose_spec.1 T.i_MAX_SIZE.choose_spec.2) pa_nil)))))) (pss_one ps_never) pss_nil)
      (pss_cons (ps_if (pt_not (pt_val (pe_cD (ok_are_arrows T) (hr.mono (by decide)) T.g_are_arrows (pa_cons (pv 1) (pa_cons (pv 2) pa_nil))))) (pss_one ps_never) pss_nil)
      (pss_cons (ps_fld (pv 0) (pv 1) rfl)
      (pss_one (ps_fld (pv 0) (pe_dc (own := [("source", 3)]) rfl sc_Map_init.nd (pi_range1 rfl T.f_range (pa_cons (pv 1) pa_nil)) (blkOk_by (N := N_Map_init) (sc := defScope s_Map_init) (by decide +kernel)) (fun _ _ _ _ _ => (pg_name (i := 3) sc_Map_init.nd rfl (Or.inl rfl))) (fun _ _ _ _ _ => (pts_one (pt_cmp (pc_din (hu_of hr) (pv 3) (pv 2))))) (fun _ _ _ _ _ => (pv 3)) (fun _ _ _ _ _ => (pe_dget (hu_of hr) (pv 2) (pv 3) (fun _ _ => rfl)))) rfl))))), ?_⟩
  refine ⟨_, rfl, _, _, _, rfl, true, ?_, iteF ?_⟩
  · rw [decide_eq_true (show (1 : Int) ≤ n by omega), decide_eq_true (show (n : Int) ≤ 300 by omega)]; rfl
  refine ⟨_, rfl, _, rfl, n, d, ps, f, rfl, hd, R, pi, n2, fun H1 s1 => ⟨true, rfl, iteF ?_⟩⟩
  have npd : d ≠ p := ne_of hd hp (by intro z; cases z)
  refine ⟨_, rfl, _, rfl, p, _, dx, [], rfl, s1 _ _ hp, T.cl_Map, T.n_Map_own_size, (by show 0 < 1000; decide), ?_⟩
  refine ⟨_, rfl, n, rfl, by omega, by omega, ?_⟩
  have hd2 : (upd H1 p (.ins (C_Map K) dx (putF "own_size" (nv n) []))) d = some (.dK (dk ps)) := by rw [upd_ne npd]; exact s1 _ _ hd
  have e0 : (List.range (n : Int).toNat).filterMap (fun x => (f x).map fun y => (x, nv y)) = iv (arr n f) := by
    rw [Int.toNat_natCast, arr, ← iv_fm]
    congr 1
    funext x
    cases f x <;> rfl
  refine dc_rng (by intros; rfl) (fun x => (f x).map fun y => (x, nv y)) ?_ (by omega) (fun k H' hk s => ?_) (fun k x' v H' hk e s => ?_) (fun k x' v H' hk e s => ?_) fun D H3 s3 hD h3 => ?_
  · rw [e0, iv_keys]; exact arr_nodup _ _
  · intro Q' q'
    refine ⟨_, rfl, _, rfl, d, (f k).map nv, rfl, ?_, _, rfl, ?_⟩
    · rw [show (0 : Int) + (k : Int) = (k : Int) by omega]
      exact dgetR (.inl (s _ _ hd2)) R rfl
    · rw [Option.isSome_map] at q' ⊢
      exact q'
  · intro Q' q'
    refine ⟨_, rfl, ?_⟩
    rw [show (0 : Int) + (k : Int) = (k : Int) by omega]
    obtain ⟨y, _, e2⟩ := Option.map_eq_some_iff.mp e
    cases e2
    exact q'
  · intro Q' q'
    refine ⟨_, rfl, _, rfl, d, v, rfl, ?_, q'⟩
    rw [show (0 : Int) + (k : Int) = (k : Int) by omega]
    obtain ⟨y, ey, e2⟩ := Option.map_eq_some_iff.mp e
    cases e2
    exact dgetR (.inl (s _ _ hd2)) R (by rw [ey]; rfl)
  · rw [e0] at h3
    have hp3 : H3 p = some (.ins (C_Map K) dx (putF "own_size" (nv n) [])) := s3 _ _ upd_same
    have nDp : D ≠ p := (ne_of_none upd_same hD).symm
    refine ⟨_, rfl, p, _, dx, _, rfl, hp3, T.cl_Map, T.n_Map_own_arrows, (by show 1 < 1000; decide), ?_⟩
    refine q _ (fun b o e hb => ?_) ⟨⟨dx, D, upd_same, by rw [upd_ne nDp]; exact h3⟩, pi, n1, n2⟩
    rw [upd_ne hb]
    exact s3 _ _ (by rw [upd_ne hb]; exact s1 _ _ e)
theorem mk_map {H1 : Hp} {d : Addr} {ps : List (Nat × Nat)} {f : PF} {n : Nat} {Q : VK} {E : XK} (hd : H1 d = some (.dK (dk ps))) (R : Rep ps f) (pi : PI n f) (n1 : 1 ≤ n) (n2 : n ≤ 12) (q : ∀ x H2, H1 x = none → Same H1 H2 → MapAt K H2 x n f → Q (.ref x) H2) :
    ∀ x dx, H1 x = none → H1 dx = none → dx ≠ x → sp_Map_init K [.ref x, nv n, .ref d] (upd (upd H1 dx (.own x)) x (.ins (C_Map K) dx [])) (fun v H2 => v = .non ∧ Q (.ref x) H2) E := fun x dx nx ndx nxx => by
  refine ⟨x, dx, n, d, ps, f, rfl, upd_same, ?_, R, pi, n1, n2, fun H' s m => ⟨rfl, q x H' nx (fun b o e => ?_) m⟩⟩
  · rw [upd_ne (ne_of_none hd nx), upd_ne (ne_of_none hd ndx)]; exact hd
  · have nb := ne_of_none e nx
    exact s b o (by rw [upd_ne nb, upd_ne (ne_of_none e ndx)]; exact e) nb
/-- a comprehension over a map's own table, locked -/
theorem own_core {tt : TT} {tk tv : TE} {vs : List Nat} {σ : L2.St} {H : Hp} {p d dx : Addr} {n i j : Nat} {ps : List (Nat × Nat)} {Q : VK} (T : Txt K mg base) (h0 : σ[0]? = some (some (.ref p))) (hp : H p = some (.ins (C_Map K) dx (fM n d))) (hd : H d = some (.dK (dk ps)))
    (hw : ∀ a b, wipe (((wipe σ vs).set i (some a)).set j (some b)) vs = wipe σ vs) (F : Nat × Nat → Option (Nat × Nat)) (nd : ((ps.filterMap F).map (·.1)).Nodup) (hn : ps.length ≤ 1000)
    (ht : ∀ x y H', (x, y) ∈ ps → (∀ b o, b ≠ d → H b = some o → H' b = some o) → Et tt (st2 σ vs i j x y) H' (F (x, y)).isSome)
    (hk : ∀ x y x' y' H', (x, y) ∈ ps → F (x, y) = some (x', y') → (∀ b o, b ≠ d → H b = some o → H' b = some o) → Ev tk (st2 σ vs i j x y) H' (nv x'))
    (hv : ∀ x y x' y' H', (x, y) ∈ ps → F (x, y) = some (x', y') → (∀ b o, b ≠ d → H b = some o → H' b = some o) → Ev tv (st2 σ vs i j x y) H' (nv y'))
    (q : ∀ D H', Same H H' → H D = none → H' D = some (.dK (dk (ps.filterMap F))) → Q (.ref D) H') (od : Obj) :
    tDc (iItems (tFld K (tVar 0) "own_arrows")) (gTup K 2 (gCons (gName i) (gCons (gName j) gNil))) tt tk tv vs σ (upd H d (.frz od (.dK (dk ps)))) fun v H' => H' d = some (.frz od (.dK (dk ps))) ∧ Q v (upd H' d (.dK (dk ps))) := by
  have npd : p ≠ d := ne_of hp hd (by intro z; cases z)
  have hx : ∀ H', Same (upd H d (.frz od (.dK (dk ps)))) H' → ∀ b o, b ≠ d → H b = some o → H' b = some o := fun H' s b o hb e => s b o (by rw [upd_ne hb]; exact e)
  refine ⟨_, h0, p, _, dx, _, _, rfl, by rw [upd_ne npd]; exact hp, T.cl_Map, T.n_Map_own_arrows, fM_arrows _ _, d, od, _, rfl, upd_same, ?_⟩
  refine dc_items upd_same hw (fun p => (F p).map fun r => (r.1, nv r.2)) (by rw [iv_fm_keys]; exact nd) hn (fun x y H' hm s => ?_) (fun x y x' v H' hm e s => ?_) (fun x y x' v H' hm e s => ?_) fun D H' s hD h' => ?_
  · rw [Option.isSome_map]; exact ht x y H' hm (hx H' s)
  · obtain ⟨⟨a, b⟩, e1, e2⟩ := Option.map_eq_some_iff.mp e
    cases e2
    exact hk x y a b H' hm e1 (hx H' s)
  · obtain ⟨⟨a, b⟩, e1, e2⟩ := Option.map_eq_some_iff.mp e
    cases e2
    exact hv x y a b H' hm e1 (hx H' s)
  · obtain ⟨n1, n2⟩ := lock_none hd hD
    refine ⟨s _ _ upd_same, q D _ (lock_back hd s) n1 ?_⟩
    rw [upd_ne n2, h', iv_fm]
/-- what a promise tells of a new map -/
def sp_Map_identity (K : PySem.W.Frag) : Sp := fun vs H Q _ => ∃ n : Nat, vs = [.ref (C_Map K), nv n] ∧ 1 ≤ n ∧ n ≤ 12 ∧ ∀ x H', H x = none → Same H H' → MapAt K H' x n (idF n) → Q (.ref x) H'
theorem ok_Map_identity (T : Txt K mg base) : Okd P w K mg base 6 (a_Map_identity K) (sp_Map_identity K) := by
  refine okd (d := d_Map_identity) T 9 rfl rfl sc_Map_identity (fun _ _ _ _ _ _ us hl => match us, hl with | [_, _], _ => rfl) (fun vs H Q E h => ?_) (fun cdv A outer s H vs Q E hr h => ?_)
  · obtain ⟨n, rfl, _⟩ := h; rfl
  obtain ⟨n, rfl, n1, n2, q⟩ := h
  refine ⟨_, (pss_cons (ps_expr (pe_cD (ok_check_size T) (hr.mono (by decide)) T.g_check_size (pa_cons (pv 1) pa_nil)))
      (pss_one (ps_ret (pe_mkLD (j := 0) (ok_Map_init T) T.mk_Map (hr.mono (by decide)) rfl (Or.inl rfl) (pa_cons (pv 1) (pa_cons (pe_dc (own := [("element", 2)]) rfl sc_Map_identity.nd (pi_range1 rfl T.f_range (pa_cons (pv 1) pa_nil)) (blkOk_by (N := N_Map_identity) (sc := defScope s_Map_identity) (by decide +kernel)) (fun _ _ _ _ _ => (pg_name (i := 2) sc_Map_identity.nd rfl (Or.inl rfl))) (fun _ _ _ _ _ => pts_nil) (fun _ _ _ _ _ => (pv 2)) (fun _ _ _ _ _ => (pv 2))) pa_nil)))))), ?_⟩
  refine ⟨_, rfl, n, rfl, n1, n2, rfl, _, rfl, _, rfl, n, rfl, by omega, by omega, ?_⟩
  have e0 : (List.range (n : Int).toNat).filterMap (fun x => some (x, nv x)) = iv (arr n (idF n)) := by
    rw [Int.toNat_natCast, arr, iv, List.map_filterMap]
    refine filterMap_congr' fun x hx => ?_
    rw [idF, if_pos (List.mem_range.mp hx)]; rfl
  refine dc_rng (by intros; rfl) (fun x => some (x, nv x)) ?_ (by omega) (fun k H' hk s => Et.yes) (fun k x' v H' hk e s Q' q' => ?_) (fun k x' v H' hk e s Q' q' => ?_) fun D H3 s3 hD h3 => ?_
  · rw [e0, iv_keys]; exact arr_nodup _ _
  · cases e
    exact ⟨_, rfl, by rw [show (0 : Int) + (k : Int) = (k : Int) by omega]; exact q'⟩
  · cases e
    exact ⟨_, rfl, by rw [show (0 : Int) + (k : Int) = (k : Int) by omega]; exact q'⟩
  · rw [e0] at h3
    exact mk_map h3 (arr_rep idF_pi) idF_pi n1 n2 fun x H' hx s m => q x H' (s3.free hx) (s3.trans s) m
def sp_Map_mul (K : PySem.W.Frag) : Sp := fun vs H Q _ => ∃ (p r : Addr) (n : Nat) (f g : PF), vs = [.ref p, .ref r] ∧ MapAt K H p n f ∧ MapAt K H r n g ∧ ∀ x H', H x = none → Same H H' → MapAt K H' x n (mulF f g) → Q (.ref x) H'
theorem ok_Map_mul (T : Txt K mg base) : Okd P w K mg base 6 (a_Map_mul K) (sp_Map_mul K) := by
  refine okd (d := d_Map_mul) T 12 rfl rfl sc_Map_mul (fun _ _ _ _ _ _ us hl => match us, hl with | [_, _], _ => rfl) (fun vs H Q E h => ?_) (fun cdv A outer s H vs Q E hr h => ?_)
  · obtain ⟨p, r, n, f, g, rfl, _⟩ := h; rfl
  obtain ⟨p, r, n, f, g, rfl, m, m', q⟩ := h
  obtain ⟨dx, d, h1, h2⟩ := m.ob
  obtain ⟨dx', d', h1', h2'⟩ := m'.ob
  refine ⟨_, (pss_cons (ps_if (pt_not (pt_val (pe_callB call_isi rfl T.f_isinstance (by decide +kernel) (pa_cons (pv 1) (pa_cons (pe_glob (v := .ref (C_Map K)) rfl T.g_Map rfl) pa_nil))))) (pss_one ps_never) pss_nil)
      (pss_cons (ps_set (i := 2) sc_Map_mul.nd rfl (Or.inl rfl) (pe_cD (ok_common_size T) (hr.mono (by decide)) T.g_common_size (pa_cons (pv 0) (pa_cons (pv 1) pa_nil))))
      (pss_cons (ps_set (i := 3) sc_Map_mul.nd rfl (Or.inr rfl) (pe_prD (ok_Map_arrows T) (hr.mono (by decide)) T.cl_Map T.p_Map_arrows (pv 1)))
      (pss_one (ps_ret (pe_mkD (ok_Map_init T) T.mk_Map (hr.mono (by decide)) T.g_Map (pa_cons (pv 2) (pa_cons (pe_lock (pe_dc (own := [("source", 4), ("target", 5)]) rfl sc_Map_mul.nd (pi_items (pe_fld (pv 0) rfl)) (blkOk_by (N := N_Map_mul) (sc := defScope s_Map_mul) (by decide +kernel)) (fun _ _ _ _ _ => (pgK_tup (K := K) (n := 2) rfl rfl (pgs_cons (pg_name (i := 4) sc_Map_mul.nd rfl (Or.inl rfl)) (pgs_cons (pg_name (i := 5) sc_Map_mul.nd rfl (Or.inl rfl)) pgs_nil)))) (fun _ _ _ _ _ => (pts_one (pt_cmp (pc_din (hu_of hr) (pv 5) (pv 3))))) (fun _ _ _ _ _ => (pv 4)) (fun _ _ _ _ _ => (pe_dget (hu_of hr) (pv 3) (pv 5) (fun _ _ => rfl))))) pa_nil)))))))), ?_⟩
  refine ⟨_, rfl, _, .ref (C_Map K), .ref (C_Map K), .ref (C_Map K), true, rfl, .own _, .base (T.ty_Map h1'), by unfold PySem.W.kitOne; simp, true, rfl, iteF ?_⟩
  refine ⟨_, rfl, _, rfl, p, r, n, f, g, rfl, m, m', ?_⟩
  refine ⟨_, rfl, r, dx', _, rfl, h1', r, n, g, rfl, m', fun d2 hd2 => ?_⟩
  have s1 : Same H (upd H d2 (.dK (dk (arr n g)))) := same_new (Same.refl _) hd2
  have nd2 : d2 ≠ d := (ne_of_none h2 hd2).symm
  refine ⟨_, rfl, d, .dK (dk (arr n f)), s1 _ _ h2, True.intro, fun od => ?_⟩
  have R := rep_mul (g := g) (arr_rep m.pi)
  refine own_core T rfl (s1 _ _ h1) (s1 _ _ h2) (by intros; rfl) (fun p => (g p.2).map fun z => (p.1, z)) R.nd (Nat.le_trans m.small (by decide)) (fun x y H' hm hx Q' q' => ?_) (fun x y x' y' H' hm e hx Q' q' => ?_) (fun x y x' y' H' hm e hx Q' q' => ?_) (fun D H3 s3 hD h3 => ?_) od
  · refine ⟨_, rfl, _, rfl, d2, _, rfl, dgetR (.inl (hx d2 _ nd2 upd_same)) (arr_rep m'.pi) rfl, _, rfl, ?_⟩
    rw [Option.isSome_map] at q' ⊢
    exact q'
  · obtain ⟨z, hz, e2⟩ := Option.map_eq_some_iff.mp e
    cases e2
    exact ⟨_, rfl, q'⟩
  · obtain ⟨z, hz, e2⟩ := Option.map_eq_some_iff.mp e
    cases e2
    exact ⟨_, rfl, _, rfl, d2, _, rfl, dgetR (.inl (hx d2 _ nd2 upd_same)) (arr_rep m'.pi) (by rw [hz]; rfl), q'⟩
  · exact mk_map h3 R (mulF_pi m.pi m'.pi) m.n1 m.n2 fun x H' hx s m => q x H' (s1.free (s3.free hx)) (s1.trans (s3.trans s)) m
def sp_Map_invert (K : PySem.W.Frag) : Sp := fun vs H Q _ => ∃ (p : Addr) (n : Nat) (f : PF), vs = [.ref p] ∧ MapAt K H p n f ∧ ∀ x H', H x = none → Same H H' → MapAt K H' x n (invF n f) → Q (.ref x) H'
theorem ok_Map_invert (T : Txt K mg base) : Okd P w K mg base 6 (a_Map_invert K) (sp_Map_invert K) := by
  refine okd (d := d_Map_invert) T 13 rfl rfl sc_Map_invert (fun _ _ _ _ _ _ us hl => match us, hl with | [_], _ => rfl) (fun vs H Q E h => ?_) (fun cdv A outer s H vs Q E hr h => ?_)
  · obtain ⟨p, n, f, rfl, _⟩ := h; rfl
  obtain ⟨p, n, f, rfl, m, q⟩ := h
  obtain ⟨dx, d, h1, h2⟩ := m.ob
  refine ⟨_, (pss_one (ps_ret (pe_mkD (ok_Map_init T) T.mk_Map (hr.mono (by decide)) T.g_Map (pa_cons (pe_fld (pv 0) rfl) (pa_cons (pe_lock (pe_dc (own := [("source", 1), ("target", 2)]) rfl sc_Map_invert.nd (pi_items (pe_fld (pv 0) rfl)) (blkOk_by (N := N_Map_invert) (sc := defScope s_Map_invert) (by decide +kernel)) (fun _ _ _ _ _ => (pgK_tup (K := K) (n := 2) rfl rfl (pgs_cons (pg_name (i := 1) sc_Map_invert.nd rfl (Or.inl rfl)) (pgs_cons (pg_name (i := 2) sc_Map_invert.nd rfl (Or.inl rfl)) pgs_nil)))) (fun _ _ _ _ _ => pts_nil) (fun _ _ _ _ _ => (pv 2)) (fun _ _ _ _ _ => (pv 1)))) pa_nil))))), ?_⟩
  refine ⟨_, rfl, p, _, dx, _, _, rfl, h1, T.cl_Map, T.n_Map_own_size, fM_size _ _, d, .dK (dk (arr n f)), h2, True.intro, fun od => ?_⟩
  have R := rep_inv (arr_rep m.pi) m.pi
  refine own_core T rfl h1 h2 (by intros; rfl) (fun p => some (p.2, p.1)) R.nd (Nat.le_trans m.small (by decide)) (fun x y H' hm hx => Et.yes) (fun x y x' y' H' hm e hx Q' q' => ?_) (fun x y x' y' H' hm e hx Q' q' => ?_) (fun D H3 s3 hD h3 => ?_) od
  · cases e; exact ⟨_, rfl, q'⟩
  · cases e; exact ⟨_, rfl, q'⟩
  · exact mk_map h3 R (invF_pi m.pi) m.n1 m.n2 fun x H' hx s m => q x H' (s3.free hx) (s3.trans s) m
def sp_Map_and (K : PySem.W.Frag) : Sp := fun vs H Q _ => ∃ (p r : Addr) (n : Nat) (f g : PF), vs = [.ref p, .ref r] ∧ MapAt K H p n f ∧ MapAt K H r n g ∧ ∀ x H', H x = none → Same H H' → MapAt K H' x n (andF f g) → Q (.ref x) H'
/-- how a read with None for what is not there compares -/
theorem get_eq (o : Option Nat) (y : Nat) : scal ((o.map nv).getD .non) (nv y) = true ∧ decide ((o.map nv).getD V.non = nv y) = decide (o = some y) := by
  cases o with
  | none => exact ⟨rfl, by simp⟩
  | some z =>
    refine ⟨rfl, ?_⟩
    show decide (nv z = nv y) = _
    by_cases e : z = y
    · subst e; simp
    · have : ¬ (nv z = nv y) := fun h => e (by have := V.int.inj h; omega)
      rw [decide_eq_false this, decide_eq_false (fun h => e (Option.some.inj h))]
theorem ok_Map_and (T : Txt K mg base) : Okd P w K mg base 6 (a_Map_and K) (sp_Map_and K) := by
  refine okd (d := d_Map_and) T 15 rfl rfl sc_Map_and (fun _ _ _ _ _ _ us hl => match us, hl with | [_, _], _ => rfl) (fun vs H Q E h => ?_) (fun cdv A outer s H vs Q E hr h => ?_)
  · obtain ⟨p, r, n, f, g, rfl, _⟩ := h; rfl
  obtain ⟨p, r, n, f, g, rfl, m, m', q⟩ := h
  obtain ⟨dx, d, h1, h2⟩ := m.ob
  obtain ⟨dx', d', h1', h2'⟩ := m'.ob
  refine ⟨_, (pss_cons (ps_if (pt_not (pt_val (pe_callB call_isi rfl T.f_isinstance (by decide +kernel) (pa_cons (pv 1) (pa_cons (pe_glob (v := .ref (C_Map K)) rfl T.g_Map rfl) pa_nil))))) (pss_one ps_never) pss_nil)
      (pss_cons (ps_set (i := 2) sc_Map_and.nd rfl (Or.inl rfl) (pe_cD (ok_common_size T) (hr.mono (by decide)) T.g_common_size (pa_cons (pv 0) (pa_cons (pv 1) pa_nil))))
      (pss_cons (ps_set (i := 3) sc_Map_and.nd rfl (Or.inr rfl) (pe_prD (ok_Map_arrows T) (hr.mono (by decide)) T.cl_Map T.p_Map_arrows (pv 1)))
      (pss_cons (ps_lock (ps_setDc (i := 4) (own := [("source", 5), ("target", 6)]) rfl sc_Map_and.nd rfl rfl (sw_trueD rfl rfl rfl (by decide +kernel)) (pi_items (pe_fld (pv 0) rfl)) (blkOk_by (N := N_Map_and) (sc := defScope s_Map_and) (by decide +kernel)) (fun _ _ _ _ _ => (pgK_tup (K := K) (n := 2) rfl rfl (pgs_cons (pg_name (i := 5) sc_Map_and.nd rfl (Or.inl rfl)) (pgs_cons (pg_name (i := 6) sc_Map_and.nd rfl (Or.inl rfl)) pgs_nil)))) (fun _ _ _ _ _ => (pts_one (pt_cmpR op_eq (pe_dget1 (hu_of hr) (pv 3) (pv 5) ⟨rfl, rfl, rfl, rfl⟩) (pv 6) (nomark _)))) (fun _ _ _ _ _ => (pv 5)) (fun _ _ _ _ _ => (pv 6))))
      (pss_one (ps_ret (pe_mkD (ok_Map_init T) T.mk_Map (hr.mono (by decide)) T.g_Map (pa_cons (pv 2) (pa_cons (pv 4) pa_nil))))))))), ?_⟩
  refine ⟨_, rfl, _, .ref (C_Map K), .ref (C_Map K), .ref (C_Map K), true, rfl, .own _, .base (T.ty_Map h1'), by unfold PySem.W.kitOne; simp, true, rfl, iteF ?_⟩
  refine ⟨_, rfl, _, rfl, p, r, n, f, g, rfl, m, m', ?_⟩
  refine ⟨_, rfl, r, dx', _, rfl, h1', r, n, g, rfl, m', fun d2 hd2 => ?_⟩
  have s1 : Same H (upd H d2 (.dK (dk (arr n g)))) := same_new (Same.refl _) hd2
  have nd2 : d2 ≠ d := (ne_of_none h2 hd2).symm
  refine ⟨d, .dK (dk (arr n f)), s1 _ _ h2, True.intro, fun od => ?_⟩
  have R := rep_and (g := g) (arr_rep m.pi)
  refine own_core T rfl (s1 _ _ h1) (s1 _ _ h2) (by intros; rfl) (fun p => if g p.1 = some p.2 then some p else none) R.nd (Nat.le_trans m.small (by decide)) (fun x y H' hm hx Q' q' => ?_) (fun x y x' y' H' hm e hx Q' q' => ?_) (fun x y x' y' H' hm e hx Q' q' => ?_) (fun D H3 s3 hD h3 => ?_) od
  · obtain ⟨e1, e2⟩ := get_eq (g x) y
    refine ⟨_, rfl, d2, rfl, .inl ⟨_, .inl (hx d2 _ nd2 upd_same)⟩, _, rfl, _, dgetR (.inl (hx d2 _ nd2 upd_same)) (arr_rep m'.pi) rfl, _, rfl, e1, _, rfl, ?_⟩
    rw [e2]
    by_cases e : g x = some y
    · rw [decide_eq_true e]; simpa [e] using q'
    · rw [decide_eq_false e]; simpa [e] using q'
  · split at e
    · cases e; exact ⟨_, rfl, q'⟩
    · cases e
  · split at e
    · cases e; exact ⟨_, rfl, q'⟩
    · cases e
  · exact ⟨_, rfl, _, rfl, mk_map h3 R (andF_pi m.pi) m.n1 m.n2 fun x H' hx s m => q x H' (s1.free (s3.free hx)) (s1.trans (s3.trans s)) m⟩
end
end K35
end

section
set_option Elab.async false
set_option linter.all false
set_option maxRecDepth 100000
set_option maxHeartbeats 4000000
/-! W3: comparisons of maps, rows, powers. -/
namespace K35
open PySem PySem.Spec PyProof.Rows L2 CM
theorem hit_dk (qs : List (Nat × Nat)) : ∀ ps : List (Nat × Nat), hitD (dk qs) (dk ps) = ps.all fun p => decide (lk qs p.1 = some p.2)
  | [] => rfl
  | (a, b) :: r => by
    show hitD (dk qs) ((nk a, nv b) :: dk r) = _
    unfold hitD
    rw [valV_dk, hit_dk qs r]
    show (match (lk qs a).map nv with | none => false | some y => eqV (nv b) y && _) = _
    rw [List.all_cons]
    cases e : lk qs a with
    | none => rfl
    | some y =>
      show (eqV (nv b) (nv y) && _) = _
      congr 1
      show ((b : Int) == (y : Int)) = decide (some y = some b)
      by_cases h : b = y
      · subst h; simp
      · have h1 : ¬ (b : Int) = (y : Int) := by omega
        have h2 : ¬ some y = some b := fun z => h (Option.some.inj z).symm
        rw [decide_eq_false h2]
        simpa using h1
theorem flat_dk (ps : List (Nat × Nat)) : ∀ p ∈ dk ps, flatV p.2 = true := fun p hp => by
  obtain ⟨q, hq, rfl⟩ := List.mem_map.mp hp
  obtain ⟨r, _, rfl⟩ := List.mem_map.mp hq
  rfl
section
variable {P : Program} {w : World} {K : PySem.W.Frag} {mg : Str → Option Value} {base : Heap}
def sp_is_part : Sp := fun vs H Q _ => ∃ (d e : Addr) (n : Nat) (f g : PF), vs = [.ref d, .ref e] ∧ H d = some (.dK (dk (arr n f))) ∧ H e = some (.dK (dk (arr n g))) ∧ e ≠ d ∧ n ≤ 12 ∧ PI n f ∧ PI n g ∧ ∀ H', Same H H' → Q (.bl (leF n f g)) H'
theorem ok_is_part (T : Txt K mg base) : Okd P w K mg base 1 (a_is_part K) sp_is_part := by
  refine okd (d := d_is_part) T 21 rfl rfl sc_is_part (fun _ _ _ _ _ _ us hl => match us, hl with | [_, _], _ => rfl) (fun vs H Q E h => ?_) (fun cdv A outer s H vs Q E hr h => ?_)
  · obtain ⟨d, e, n, f, g, rfl, _⟩ := h; rfl
  obtain ⟨d, e, n, f, g, rfl, hd, he, ned, n2, pf, pg, q⟩ := h
  refine ⟨_, (pss_one (ps_ret (pe_callB (cr_all rfl) rfl T.f_all (by decide +kernel) (pa_cons (pe_lock (pe_lc (own := [("source", 2), ("target", 3)]) rfl sc_is_part.nd (pi_items (pv 0)) (blkOk_by (N := N_is_part) (sc := defScope s_is_part) (by decide +kernel)) (fun _ _ _ _ _ => (pgK_tup (K := K) (n := 2) rfl rfl (pgs_cons (pg_name (i := 2) sc_is_part.nd rfl (Or.inl rfl)) (pgs_cons (pg_name (i := 3) sc_is_part.nd rfl (Or.inl rfl)) pgs_nil)))) (fun _ _ _ _ _ => pts_nil) (fun _ _ _ _ _ => (pe_cmpR op_eq (pe_dget1 (hu_of hr) (pv 1) (pv 2) ⟨rfl, rfl, rfl, rfl⟩) (pv 3) (nomark _))))) pa_nil)))), ?_⟩
  refine ⟨d, .dK (dk (arr n f)), hd, True.intro, fun od => ?_⟩
  refine ⟨_, rfl, d, od, _, rfl, upd_same, ?_⟩
  refine lc_items upd_same (by intros; rfl) (fun p => some (.bl (decide (g p.1 = some p.2)))) (Nat.le_trans (arr_len n f) (by omega)) (fun x y H' hm s => Et.yes) (fun x y v H' hm e s Q' q' => ?_) fun D H3 s3 hD h3 => ?_
  · cases e
    have he' : H' e = some (.dK (dk (arr n g))) := s _ _ (by rw [upd_ne ned]; exact he)
    obtain ⟨e1, e2⟩ := get_eq (g x) y
    refine ⟨_, rfl, e, rfl, .inl ⟨_, .inl he'⟩, _, rfl, _, dgetR (.inl he') (arr_rep pg) rfl, _, rfl, e1, ?_⟩
    rw [e2]; exact q'
  · obtain ⟨n1, n2⟩ := lock_none hd hD
    refine ⟨s3 _ _ upd_same, D, (arr n f).map fun p => decide (g p.1 = some p.2), rfl, SqL.of ?_, ?_⟩
    · rw [upd_ne n2, h3, List.map_map, List.filterMap_eq_map']; rfl
    · rw [List.all_map]
      exact q _ (lock_back hd s3)
def sp_Map_le (K : PySem.W.Frag) : Sp := fun vs H Q _ => ∃ (p r : Addr) (n : Nat) (f g : PF), vs = [.ref p, .ref r] ∧ MapAt K H p n f ∧ MapAt K H r n g ∧ ∀ H', Same H H' → Q (.bl (leF n f g)) H'
theorem ok_Map_le (T : Txt K mg base) : Okd P w K mg base 4 (a_Map_le K) (sp_Map_le K) := by
  refine okd (d := d_Map_le) T 16 rfl rfl sc_Map_le (fun _ _ _ _ _ _ us hl => match us, hl with | [_, _], _ => rfl) (fun vs H Q E h => ?_) (fun cdv A outer s H vs Q E hr h => ?_)
  · obtain ⟨p, r, n, f, g, rfl, _⟩ := h; rfl
  obtain ⟨p, r, n, f, g, rfl, m, m', q⟩ := h
  obtain ⟨dx, d, h1, h2⟩ := m.ob
  obtain ⟨dx', d', h1', h2'⟩ := m'.ob
  refine ⟨_, (pss_cons (ps_if (pt_not (pt_val (pe_callB call_isi rfl T.f_isinstance (by decide +kernel) (pa_cons (pv 1) (pa_cons (pe_glob (v := .ref (C_Map K)) rfl T.g_Map rfl) pa_nil))))) (pss_one ps_never) pss_nil)
      (pss_cons (ps_expr (pe_cD (ok_common_size T) (hr.mono (by decide)) T.g_common_size (pa_cons (pv 0) (pa_cons (pv 1) pa_nil))))
      (pss_one (ps_ret (pe_cD (ok_is_part T) (hr.mono (by decide)) T.g_is_part (pa_cons (pe_fld (pv 0) rfl) (pa_cons (pe_prD (ok_Map_arrows T) (hr.mono (by decide)) T.cl_Map T.p_Map_arrows (pv 1)) pa_nil))))))), ?_⟩
  refine ⟨_, rfl, _, .ref (C_Map K), .ref (C_Map K), .ref (C_Map K), true, rfl, .own _, .base (T.ty_Map h1'), by unfold PySem.W.kitOne; simp, true, rfl, iteF ?_⟩
  refine ⟨_, rfl, _, rfl, p, r, n, f, g, rfl, m, m', ?_⟩
  refine ⟨_, rfl, p, _, dx, _, _, rfl, h1, T.cl_Map, T.n_Map_own_arrows, fM_arrows _ _, ?_⟩
  refine ⟨_, rfl, r, dx', _, rfl, h1', r, n, g, rfl, m', fun d2 hd2 => ?_⟩
  have s1 : Same H (upd H d2 (.dK (dk (arr n g)))) := same_new (Same.refl _) hd2
  exact ⟨d, d2, n, f, g, rfl, s1 _ _ h2, upd_same, (ne_of_none h2 hd2).symm, m.n2, m.pi, m'.pi, fun H' s => q H' (s1.trans s)⟩
def sp_Map_eq (K : PySem.W.Frag) : Sp := fun vs H Q _ => ∃ (p r : Addr) (n : Nat) (f g : PF), vs = [.ref p, .ref r] ∧ MapAt K H p n f ∧ MapAt K H r n g ∧ Q (.bl (eqF n f g)) H
theorem ok_Map_eq (T : Txt K mg base) : Okd P w K mg base 1 (a_Map_eq K) (sp_Map_eq K) := by
  refine okd (d := d_Map_eq) T 19 rfl rfl sc_Map_eq (fun _ _ _ _ _ _ us hl => match us, hl with | [_, _], _ => rfl) (fun vs H Q E h => ?_) (fun cdv A outer s H vs Q E hr h => ?_)
  · obtain ⟨p, r, n, f, g, rfl, _⟩ := h; rfl
  obtain ⟨p, r, n, f, g, rfl, m, m', q⟩ := h
  obtain ⟨dx, d, h1, h2⟩ := m.ob
  obtain ⟨dx', d', h1', h2'⟩ := m'.ob
  refine ⟨_, (pss_cons (ps_if (pt_not (pt_val (pe_callB call_isi rfl T.f_isinstance (by decide +kernel) (pa_cons (pv 1) (pa_cons (pe_glob (v := .ref (C_Map K)) rfl T.g_Map rfl) pa_nil))))) (pss_one (ps_ret pe_bl)) pss_nil)
      (pss_one (ps_ret (pe_and (pe_cmpR op_eq (pe_fld (pv 0) rfl) (pe_fld (pv 1) rfl) (nomark _)) (pe_one (pe_cmpR (op_eq_dictB hr.units0) (pe_fld (pv 0) rfl) (pe_fld (pv 1) rfl) (nomark _))))))), ?_⟩
  refine ⟨_, rfl, _, .ref (C_Map K), .ref (C_Map K), .ref (C_Map K), true, rfl, .own _, .base (T.ty_Map h1'), by unfold PySem.W.kitOne; simp, true, rfl, iteF ?_⟩
  refine ⟨_, rfl, p, _, dx, _, _, rfl, h1, T.cl_Map, T.n_Map_own_size, fM_size _ _, _, rfl, r, _, dx', _, _, rfl, h1', T.cl_Map, T.n_Map_own_size, fM_size _ _, rfl, true, ?_, iteT ?_⟩
  · rw [decide_eq_true rfl]
  refine ⟨_, rfl, p, _, dx, _, _, rfl, h1, T.cl_Map, T.n_Map_own_arrows, fM_arrows _ _, _, rfl, r, _, dx', _, _, rfl, h1', T.cl_Map, T.n_Map_own_arrows, fM_arrows _ _, d, d', _, _, rfl, rfl, h2, h2', flat_dk _, flat_dk _, ?_⟩
  have e : ((dk (arr n f)).length == (dk (arr n g)).length && hitD (dk (arr n g)) (dk (arr n f))) = eqF n f g := by
    rw [hit_dk, dk_length, dk_length, eqF]
    congr 1
    refine congrArg _ (funext fun p => ?_)
    rw [(arr_rep m'.pi).lk]
  rw [e]; exact q
/-- a list of numbers stands at a -/
abbrev LiAt (H : Hp) (a : Addr) (xs : List Nat) : Prop := H a = some (.lst (li xs))
def sp_row_from : Sp := fun vs H Q _ => ∃ (d : Addr) (x n : Nat) (f : PF), vs = [.ref d, nv x] ∧ H d = some (.dK (dk (arr n f))) ∧ PI n f ∧ x < n ∧ n ≤ 12 ∧ ∀ a H', H a = none → Same H H' → LiAt H' a (row n f x) → Q (.ref a) H'
theorem ok_row_from (T : Txt K mg base) : Okd P w K mg base 1 (a_row_from K) sp_row_from := by
  refine okd (d := d_row_from) T 6 rfl rfl sc_row_from (fun _ _ _ _ _ _ us hl => match us, hl with | [_, _], _ => rfl) (fun vs H Q E h => ?_) (fun cdv A outer s H vs Q E hr h => ?_)
  · obtain ⟨d, x, n, f, rfl, _⟩ := h; rfl
  obtain ⟨d, x, n, f, rfl, hd, pf, hx, n2, q⟩ := h
  refine ⟨_, (pss_cons (ps_set (i := 2) sc_row_from.nd rfl (Or.inl rfl) (pe_lst (pa_cons (pv 1) pa_nil)))
      (pss_cons (ps_while PassesOwn.never (PW.pt (pw_and (pt_cmp (pc_din (hu_of hr) (pe_ix ix_list (pv 2) (pe_un un_neg pe_int) (fun _ _ => rfl)) (pv 0))) (pw_and1 (pt_cmpR op_ne (pe_dget (hu_of hr) (pv 0) (pe_ix ix_list (pv 2) (pe_un un_neg pe_int) (fun _ _ => rfl)) (fun _ _ => rfl)) (pv 1) (nomark _))))) (pss_one (ps_expr (pe_bm PySem.F.plainAttrs_list PySem.F.slot_list_append PySem.F.type_list_append mt_append (pv 2) (pa_cons (pe_dget (hu_of hr) (pv 0) (pe_ix ix_list (pv 2) (pe_un un_neg pe_int) (fun _ _ => rfl)) (fun _ _ => rfl)) pa_nil)))))
      (pss_one (ps_ret (pv 2))))), ?_⟩
  refine ⟨_, rfl, (by show 1 ≤ sizeLine; decide), fun a ha => ?_⟩
  have nda : d ≠ a := ne_of_none hd ha
  refine ⟨fun m σ H' => ∃ pre cur, σ = [some (.ref d), some (nv x), some (.ref a)] ∧ Same H H' ∧ LiAt H' a (pre ++ [cur]) ∧ Pre n f x (pre ++ [cur]) ∧ n + 1 ≤ (pre ++ [cur]).length + m ∧ row n f x = pre ++ rowGo f x m cur,
    ⟨n, [], x, rfl, same_new (Same.refl _) ha, upd_same, Pre.one n f x, by simp; omega, rfl⟩, ?_⟩
  rintro m σ H' ⟨pre, cur, rfl, s, hl, pp, hm, er⟩
  have hc : cur < n := pp.lt pf hx cur (by simp)
  have hll := pp.small pf hx
  have eli : li (pre ++ [cur]) = li pre ++ [nv cur] := List.map_append
  have al : atI (li (pre ++ [cur])) (-1) = some (nv cur) := by rw [eli]; exact atI_last _ _
  have hd' : H' d = some (.dK (dk (arr n f))) := s _ _ hd
  cases m with
  | zero => omega
  | succ m =>
    refine ⟨_, rfl, 1, rfl, a, _, _, _, rfl, rfl, SqL.of hl, al, _, rfl, d, _, rfl, dgetR (.inl hd') (arr_rep pf) rfl, _, rfl, ?_⟩
    rw [rowGo] at er
    cases e : f cur with
    | none =>
      rw [e] at er
      refine iteF (iteF ⟨_, rfl, q a H' ha s ?_⟩)
      rw [er]; exact hl
    | some y =>
      rw [e] at er
      refine iteT ⟨_, rfl, _, rfl, 1, rfl, a, _, _, _, rfl, rfl, SqL.of hl, al, d, nv y, rfl, dgetR (.inl hd') (arr_rep pf) (by rw [e]; rfl), _, rfl, rfl, _, rfl, ?_⟩
      by_cases hy : y = x
      · subst hy
        rw [decide_eq_true rfl]
        dsimp only at er
        rw [if_pos rfl] at er
        refine iteF ⟨_, rfl, q a H' ha s ?_⟩
        rw [er]; exact hl
      · have hv : ¬ (nv y = nv x) := fun h => hy (by have := V.int.inj h; omega)
        rw [decide_eq_false hv]
        dsimp only at er
        rw [if_neg hy] at er
        refine iteT ⟨fun σ' H'' => _, fun σ' H'' z => ⟨m, Nat.lt_succ_self m, z⟩, ?_⟩
        refine ⟨_, rfl, .inl ⟨rfl, _, SqL.of hl⟩, _, rfl, _, rfl, 1, rfl, a, _, _, _, rfl, rfl, SqL.of hl, al, d, nv y, rfl, dgetR (.inl hd') (arr_rep pf) (by rw [e]; rfl), a, _, _, rfl, rfl, hl, ?_, ?_⟩
        · rw [List.length_map]; exact small12 (by omega)
        · refine ⟨pre ++ [cur], y, rfl, same_at s ha, ?_, pp.step pf e hy, by simp at hm ⊢; omega, by rw [er]; simp⟩
          rw [LiAt, upd_same, li_snoc (pre ++ [cur])]
end
end K35
end

section
set_option Elab.async false
set_option linter.all false
set_option maxRecDepth 100000
set_option maxHeartbeats 4000000
/-! W4: powers of maps. -/
namespace K35
open PySem PySem.Spec PyProof.Rows L2 CM
section
variable {P : Program} {w : World} {K : PySem.W.Frag} {mg : Str → Option Value} {base : Heap}
theorem toNat_mod {a b : Nat} : ((a : Int) % (b : Int)) = ((a % b : Nat) : Int) := by simp
def sp_moved : Sp := fun vs H Q _ => ∃ (d : Addr) (n k : Nat) (f : PF), vs = [.ref d, nv k] ∧ H d = some (.dK (dk (arr n f))) ∧ PI n f ∧ n ≤ 12 ∧ 0 < k ∧ ∀ a H' ps, H a = none → Same H H' → H' a = some (.dK (dk ps)) → Rep ps (powF f k) → Q (.ref a) H'
theorem ok_moved (T : Txt K mg base) : Okd P w K mg base 2 (a_moved K) sp_moved := by
  refine okd (d := d_moved) T 7 rfl rfl sc_moved (fun _ _ _ _ _ _ us hl => match us, hl with | [_, _], _ => rfl) (fun vs H Q E h => ?_) (fun cdv A outer s H vs Q E hr h => ?_)
  · obtain ⟨d, n, k, f, rfl, _⟩ := h; rfl
  obtain ⟨d, n, k, f, rfl, hd, pf, n2, hk, q⟩ := h
  refine ⟨_, (pss_cons (ps_set (i := 2) sc_moved.nd rfl (Or.inl rfl) pe_dnewK)
      (pss_cons (ps_set (i := 3) sc_moved.nd rfl (Or.inl rfl) pe_dnewK)
      (pss_cons (ps_set (i := 4) sc_moved.nd rfl (Or.inr rfl) (pe_lock (pe_dc (own := [("target", 5)]) rfl sc_moved.nd (pi_values (pv 0)) (blkOk_by (N := N_moved) (sc := defScope s_moved) (by decide +kernel)) (fun _ _ _ _ _ => (pg_name (i := 5) sc_moved.nd rfl (Or.inl rfl))) (fun _ _ _ _ _ => pts_nil) (fun _ _ _ _ _ => (pv 5)) (fun _ _ _ _ _ => pe_bl))))
      (pss_cons (ps_for PassesOwn.never rfl (pi_list (pe_op op_cat (pe_lock (pe_lc (own := [("element", 9)]) rfl sc_moved.nd (pi_keys (pv 0)) (blkOk_by (N := N_moved) (sc := defScope s_moved) (by decide +kernel)) (fun _ _ _ _ _ => (pg_name (i := 9) sc_moved.nd rfl (Or.inl rfl))) (fun _ _ _ _ _ => (pts_one (pt_cmp (pc_dnotin (hu_of hr) (pv 9) (pv 4))))) (fun _ _ _ _ _ => (pv 9)))) (pe_callTy (call_list_dK rfl) rfl T.f_list (by decide +kernel) (pa_cons (pv 0) pa_nil)))) (pg_name (i := 6) sc_moved.nd rfl (Or.inl rfl))
      (pss_one (ps_if (pt_cmp (pc_dnotin (hu_of hr) (pv 6) (pv 3))) (pss_cons (ps_set (i := 7) sc_moved.nd rfl (Or.inl rfl) (pe_cD (ok_row_from T) (hr.mono (by decide)) T.g_row_from (pa_cons (pv 0) (pa_cons (pv 6) pa_nil))))
      (pss_cons (ps_set (i := 8) sc_moved.nd rfl (Or.inl rfl) (pe_cmp (pc_din (hu_of hr) (pe_ix ix_list (pv 7) (pe_un un_neg pe_int) (fun _ _ => rfl)) (pv 0))))
      (pss_one (ps_for PassesOwn.never rfl (pi_enum rfl T.f_enumerate (pa_cons (pv 7) pa_nil)) (pg_tup rfl (pgs_cons (pg_name (i := 10) sc_moved.nd rfl (Or.inl rfl)) (pgs_cons (pg_name (i := 9) sc_moved.nd rfl (Or.inl rfl)) pgs_nil)))
      (pss_cons (ps_dput (hu_of hr) (pv 3) (pv 9) pe_bl rfl)
      (pss_one (ps_if (pt_val (pv 8)) (pss_one (ps_dput (hu_of hr) (pv 2) (pv 9) (pe_ix ix_list (pv 7) (pe_op op_mod (pe_op op_add (pv 10) (pv 1)) (pe_callB call_len_seq rfl T.f_len (by decide +kernel) (pa_cons (pv 7) pa_nil))) (fun _ _ => rfl)) rfl)) (pss_one (ps_if (pt_cmpR op_lt (pe_op op_add (pv 10) (pv 1)) (pe_callB call_len_seq rfl T.f_len (by decide +kernel) (pa_cons (pv 7) pa_nil)) (nomark _)) (pss_one (ps_dput (hu_of hr) (pv 2) (pv 9) (pe_ix ix_list (pv 7) (pe_op op_add (pv 10) (pv 1)) (fun _ _ => rfl)) rfl)) pss_nil))))))))) pss_nil)))
      (pss_one (ps_ret (pv 2))))))), ?_⟩
  intro aF hF aS hS
  have nSF : aF ≠ aS := ne_of_none upd_same hS
  have hF0 : H aF = none := hF
  have hS0 : H aS = none := by rw [upd_ne nSF.symm] at hS; exact hS
  generalize e1 : upd (upd H aF (.dK [])) aS (.dK []) = H1
  have s1 : Same H H1 := by rw [← e1]; exact same_new (same_new (Same.refl _) hF) hS
  have f1 : H1 aF = some (.dK []) := by rw [← e1, upd_ne nSF, upd_same]
  have g1 : H1 aS = some (.dK []) := by rw [← e1, upd_same]
  have al : (arr n f).length ≤ 12 := Nat.le_trans (arr_len n f) n2
  -- targets
  refine ⟨d, .dK (dk (arr n f)), s1 _ _ hd, True.intro, fun od => ?_⟩
  refine ⟨_, rfl, d, od, _, rfl, upd_same, ?_⟩
  have vnd := (arr_rep pf).vals pf
  have ev : (((arr n f).map (·.2)).filterMap fun x => some (x, V.bl true)) = bv ((arr n f).map (·.2)) := by rw [List.filterMap_eq_map']
  refine dc_li walk_liV (fun H' s => s _ _ upd_same) (by intros; rfl) (fun x => some (x, .bl true)) (by rw [ev, bv_keys]; exact vnd) (by rw [List.length_map]; omega) (fun x H' hx s => Et.yes) (fun x x' v H' hx e s Q' q' => ?_) (fun x x' v H' hx e s Q' q' => ?_) fun aT H2 s2 hT t2 => ?_
  · cases e; exact ⟨_, rfl, q'⟩
  · cases e; exact q'
  rw [ev] at t2
  obtain ⟨hT0, nTd⟩ := lock_none (s1 _ _ hd) hT
  refine ⟨s2 _ _ upd_same, ?_⟩
  have s2' := lock_back (s1 _ _ hd) s2
  generalize e3 : upd H2 d (.dK (dk (arr n f))) = H3 at s2'
  have s3 : Same H H3 := s1.trans s2'
  have t3 : H3 aT = some (.dK (dv (bv ((arr n f).map (·.2))))) := by rw [← e3, upd_ne nTd]; exact t2
  have f3 := s2' _ _ f1
  have g3 := s2' _ _ g1
  -- the sources, the chains' starts first
  refine ⟨d, .dK (dk (arr n f)), s3 _ _ hd, True.intro, fun od => ?_⟩
  refine ⟨_, rfl, d, od, rfl, .inl ⟨_, upd_same, ?_⟩⟩
  refine lc_li walk_liK (fun H' s => s _ _ upd_same) (by intros; rfl) (fun x => (if x ∈ (arr n f).map (·.2) then none else some x).map nv) (by rw [List.length_map]; omega) (fun x H' hx s Q' q' => ?_) (fun x v H' hx e s Q' q' => ?_) fun aA H4 s4 hA a4 => ?_
  · have t4 : H' aT = some (.dK (dv (bv ((arr n f).map (·.2))))) := s _ _ (by rw [upd_ne nTd]; exact t3)
    refine ⟨_, rfl, _, rfl, aT, _, rfl, dget (.inl t4) rfl, _, rfl, ?_⟩
    rw [lk_bv]
    rw [Option.isSome_map] at q'
    by_cases hx : x ∈ (arr n f).map (·.2)
    · rw [if_pos hx] at q'; rw [decide_eq_true hx]; exact q'
    · rw [if_neg hx] at q'; rw [decide_eq_false hx]; exact q'
  · split at e
    · cases e
    · cases e; exact ⟨_, rfl, q'⟩
  refine ⟨s4 _ _ upd_same, ?_⟩
  have s4' := lock_back (s3 _ _ hd) s4
  obtain ⟨hA0, nAd⟩ := lock_none (s3 _ _ hd) hA
  generalize e5 : upd H4 d (.dK (dk (arr n f))) = H5 at s4'
  have a5 : H5 aA = some (.lst (li (((arr n f).map (·.1)).filterMap fun x => if x ∈ (arr n f).map (·.2) then none else some x))) := by
    rw [← e5, upd_ne nAd, a4, li, List.map_filterMap]
  have s5 : Same H H5 := s3.trans s4'
  refine ⟨_, rfl, d, _, rfl, s5 _ _ hd, fun aB hB => ?_⟩
  have nAB : aA ≠ aB := ne_of_none a5 hB
  have eB : (dk (arr n f)).map (fun kv => kV kv.1) = li ((arr n f).map (·.1)) := by rw [dk, dv, iv, li, List.map_map, List.map_map, List.map_map]; rfl
  refine ⟨aA, aB, _, _, rfl, rfl, by rw [upd_ne nAB]; exact a5, upd_same, ?_, fun aL hL => ?_⟩
  · rw [eB, li_length, li_length, List.length_map]
    exact Nat.le_of_lt (small12 (by have := List.length_filterMap_le (fun x => if x ∈ (arr n f).map (·.2) then none else some x) ((arr n f).map (·.1)); rw [List.length_map] at this; omega))
  rw [eB] at hL
  rw [eB]
  generalize eL : (((arr n f).map (·.1)).filterMap fun x => if x ∈ (arr n f).map (·.2) then none else some x) ++ (arr n f).map (·.1) = srcs
  have eL' : li (((arr n f).map (·.1)).filterMap fun x => if x ∈ (arr n f).map (·.2) then none else some x) ++ li ((arr n f).map (·.1)) = li srcs := by rw [← eL, li, li, li, List.map_append]
  rw [eL']
  have sl : ∀ x ∈ srcs, x < n := fun x hx => by
    rw [← eL] at hx
    have hx' : x ∈ (arr n f).map (·.1) := by
      rcases List.mem_append.mp hx with h | h
      · obtain ⟨y, hy, e⟩ := List.mem_filterMap.mp h
        split at e
        · cases e
        · cases e; exact hy
      · exact h
    obtain ⟨⟨a, b⟩, hp, e⟩ := List.mem_map.mp hx'
    cases e
    exact (arr_mem.mp hp).1
  have sall : ∀ x y, f x = some y → x ∈ srcs := fun x y e => by
    rw [← eL]
    exact List.mem_append_right _ (List.mem_map.mpr ⟨(x, y), arr_mem.mpr ⟨(pf.dom e).1, e⟩, rfl⟩)
  have sB := same_new (o := .lst (li ((arr n f).map (·.1)))) (s5) hB
  have hL0 : H aL = none := sB.free hL
  have s6 : Same H (upd (upd H5 aB (.lst (li ((arr n f).map (·.1))))) aL (.lst (li srcs))) := same_new sB hL
  have up : ∀ b o, H5 b = some o → (upd (upd H5 aB (.lst (li ((arr n f).map (·.1))))) aL (.lst (li srcs))) b = some o := fun b o e => by
    have h1 : (upd H5 aB (.lst (li ((arr n f).map (·.1))))) b = some o := by rw [upd_ne (ne_of_none e hB)]; exact e
    rw [upd_ne (ne_of_none h1 hL)]; exact h1
  have l7 : LiAt (upd (upd H5 aB (.lst (li ((arr n f).map (·.1))))) aL (.lst (li srcs))) aL srcs := upd_same
  have f7 := up _ _ (s4' _ _ f3)
  have g7 := up _ _ (s4' _ _ g3)
  generalize (upd (upd H5 aB (.lst (li ((arr n f).map (·.1))))) aL (.lst (li srcs))) = H7 at s6 l7 f7 g7
  clear up sB a5 nAB hB hA0 nAd e5 s4' s4 a4 hA f3 g3 t3 s3 e3 s2' hT0 nTd s2 t2 hT f1 g1 s1 e1 s5 hL
  have nSL : srcs.length ≤ 1000 := by
    rw [← eL, List.length_append]
    have := List.length_filterMap_le (fun x => if x ∈ (arr n f).map (·.2) then none else some x) ((arr n f).map (·.1))
    rw [List.length_map] at this ⊢
    omega
  clear eL eL' eB ev hS
  refine ⟨aL, rfl, ⟨_, SqL.of l7⟩, ?_⟩
  refine for_it walk_li (fun i σ H' => ∃ o5 o6 o7 o8 o9 o10 S F, σ = [some (.ref d), some (nv k), some (.ref aF), some (.ref aS), some (.ref aT), o5, o6, o7, o8, o9, o10] ∧ Same H H' ∧ LiAt H' aL srcs ∧ H' aF = some (.dK (dk F)) ∧ H' aS = some (.dK (dv (bv S))) ∧ Mv n f k S F ∧ ∀ j x, j < i → srcs[j]? = some x → x ∈ S)
    ⟨none, none, none, none, none, none, [], [], rfl, s6, l7, f7, g7, Mv.nil n f k, fun j x h _ => absurd h (Nat.not_lt_zero j)⟩ (fun i σ H' _ ⟨_, _, _, _, _, _, _, _, _, _, h, _⟩ => SqL.of h) ?_ ?_
  · rintro i v σ H' H'' hi ⟨o5, o6, o7, o8, o9, o10, S, F, rfl, s, hl, hf, hg, M, hj⟩ ⟨rfl, ev⟩
    obtain ⟨x, ex⟩ : ∃ x, srcs[i]? = some x := ⟨_, List.getElem?_eq_getElem hi⟩
    rw [li_get ex] at ev
    cases ev
    have hx : x < n := sl x (List.mem_of_getElem? ex)
    refine ⟨_, rfl, _, rfl, aS, _, rfl, dget (.inl hg) rfl, _, rfl, ?_⟩
    rw [lk_bv]
    by_cases hxS : x ∈ S
    · rw [decide_eq_true hxS]
      refine iteF ⟨o5, _, o7, o8, o9, o10, S, F, rfl, s, hl, hf, hg, M, fun j z hj' ez => ?_⟩
      rcases Nat.lt_or_ge j i with h | h
      · exact hj j z h ez
      · have : j = i := by omega
        subst this
        rw [ex] at ez; cases ez; exact hxS
    · rw [decide_eq_false hxS]
      refine iteT ⟨_, rfl, _, rfl, d, x, n, f, rfl, s _ _ hd, pf, hx, n2, fun aR H8 hR s8 r8 => ?_⟩
      have ro := row_ok pf hx
      obtain ⟨l, el, fl⟩ := ro.last_some
      have rl := ro.lt pf hx
      have rsm := ro.small pf hx
      generalize row n f x = r at *
      refine ⟨_, rfl, 1, rfl, aR, _, _, _, rfl, rfl, SqL.of r8, atI_m1 ro.pos el, _, rfl, d, _, rfl, dgetR (.inl (s8 _ _ (s _ _ hd))) (arr_rep pf) rfl, ?_⟩
      refine ⟨_, rfl, aR, _, rfl, SqL.of r8, ?_⟩
      have hc : ((f l).map nv).isSome = (it f r.length x).isSome := by rw [Option.isSome_map, fl]
      rw [hc]
      refine for_it walk_enumN (fun j σ H' => ∃ o9 o10 S' F', σ = [some (.ref d), some (nv k), some (.ref aF), some (.ref aS), some (.ref aT), o5, some (nv x), some (.ref aR), some (.bl (it f r.length x).isSome), o9, o10] ∧ Same H H' ∧ LiAt H' aL srcs ∧ LiAt H' aR r ∧
          H' aF = some (.dK (dk F')) ∧ H' aS = some (.dK (dv (bv S'))) ∧ Mv n f k S' F' ∧ (∀ z ∈ S, z ∈ S') ∧ ∀ z ∈ r.take j, z ∈ S')
        ⟨o9, o10, S, F, rfl, s.trans s8, s8 _ _ hl, r8, s8 _ _ hf, s8 _ _ hg, M, fun _ h => h, fun z h => by simp at h⟩ (fun j σ H' _ ⟨_, _, _, _, _, _, _, h, _⟩ => SqL.of h) ?_ ?_
      · rintro j v σ Ha Hb hj' ⟨p9, p10, S', F', rfl, t, tl, tr, tf, tg, M', sub, done⟩ ⟨U, e, rfl, hU, rfl, ee⟩
        have em := List.mem_of_getElem? ee
        have he := rl e em
        refine ⟨U, _, rfl, SqT.of upd_same, rfl, _, _, rfl, _, _, rfl, rfl, ?_⟩
        have k1 : ∀ b o, Ha b = some o → (upd Ha U (.tup [nv j, nv e])) b = some o := fun b o q => by rw [upd_ne (ne_of_none q hU)]; exact q
        have tU := same_new (o := .tup [nv j, nv e]) t hU
        have tl1 := k1 _ _ tl
        have tr1 := k1 _ _ tr
        have tf1 := k1 _ _ tf
        have tg1 := k1 _ _ tg
        generalize upd Ha U (.tup [nv j, nv e]) = H9 at tU tl1 tr1 tf1 tg1
        obtain ⟨L1, L2'⟩ := M'.len
        refine ⟨_, rfl, _, rfl, aS, _, rfl, DPut.k (k := nk e) tg1 (by rw [dv_length, List.length_map]; exact small12 (by omega)), ?_⟩
        rw [put_dv, ptb_const]
        have nLS : aL ≠ aS := ne_of tl1 tg1 (by intro z; cases z)
        have nRS : aR ≠ aS := ne_of tr1 tg1 (by intro z; cases z)
        have nLF : aL ≠ aF := ne_of tl1 tf1 (by intro z; cases z)
        have nRF : aR ≠ aF := ne_of tr1 tf1 (by intro z; cases z)
        have w1 := same_at (o := .dK (dv (bv (insn S' e)))) tU hS0
        have w2 : (upd H9 aS (.dK (dv (bv (insn S' e))))) aL = some (.lst (li srcs)) := by rw [upd_ne nLS]; exact tl1
        have w3 : (upd H9 aS (.dK (dv (bv (insn S' e))))) aR = some (.lst (li r)) := by rw [upd_ne nRS]; exact tr1
        have w4 : (upd H9 aS (.dK (dv (bv (insn S' e))))) aF = some (.dK (dk F')) := by rw [upd_ne nSF]; exact tf1
        have w5 : (upd H9 aS (.dK (dv (bv (insn S' e))))) aS = some (.dK (dv (bv (insn S' e)))) := upd_same
        have sub' : ∀ z ∈ S, z ∈ insn S' e := fun z hz => mem_insn.mpr (.inr (sub z hz))
        have done' : ∀ z ∈ r.take (j + 1), z ∈ insn S' e := fun z hz => by
          rw [List.take_succ, ee] at hz
          rcases List.mem_append.mp hz with h | h
          · exact mem_insn.mpr (.inr (done z h))
          · exact mem_insn.mpr (.inl (by simpa using h))
        generalize upd H9 aS (.dK (dv (bv (insn S' e)))) = H10 at w1 w2 w3 w4 w5 ⊢
        have hit : ∀ y, powF f k e = some y → ∃ q9 q10 S'' F'', [some (.ref d), some (nv k), some (.ref aF), some (.ref aS), some (.ref aT), o5, some (nv x), some (.ref aR), some (.bl (it f r.length x).isSome), some (nv e), some (nv j)] = ([some (.ref d), some (nv k), some (.ref aF), some (.ref aS), some (.ref aT), o5, some (nv x), some (.ref aR), some (.bl (it f r.length x).isSome), q9, q10] : L2.St) ∧
            Same H (upd H10 aF (.dK (putK (dk F') (nk e) (nv y)))) ∧ LiAt (upd H10 aF (.dK (putK (dk F') (nk e) (nv y)))) aL srcs ∧ LiAt (upd H10 aF (.dK (putK (dk F') (nk e) (nv y)))) aR r ∧
            (upd H10 aF (.dK (putK (dk F') (nk e) (nv y)))) aF = some (.dK (dk F'')) ∧ (upd H10 aF (.dK (putK (dk F') (nk e) (nv y)))) aS = some (.dK (dv (bv S''))) ∧ Mv n f k S'' F'' ∧ (∀ z ∈ S, z ∈ S'') ∧ ∀ z ∈ r.take (j + 1), z ∈ S'' := fun y ey =>
          ⟨_, _, insn S' e, ptb F' e y, rfl, same_at w1 hF0, by rw [LiAt, upd_ne nLF]; exact w2, by rw [LiAt, upd_ne nRF]; exact w3, by rw [upd_same, put_dk], by rw [upd_ne nSF.symm]; exact w5, M'.hit he ey, sub', done'⟩
        refine ⟨_, rfl, _, rfl, ?_⟩
        have lF : (dk F').length < sizeLine := by rw [dk_length]; exact small12 (by omega)
        rcases ro.last with c | c
        · rw [c]
          refine iteF ?_
          refine ⟨_, rfl, _, rfl, _, _, rfl, rfl, _, rfl, aR, _, rfl, .inl (SqL.of w3), _, _, rfl, rfl, _, rfl, ?_⟩
          have hp := ro.pow_open c ee k
          refine ite2 (fun hlt => ?_) (fun hge => ?_)
          · have hlt' : j + k < r.length := by
              have h1 : (j : Int) + (k : Int) < ((li r).length : Int) := of_decide_eq_true hlt
              rw [li_length] at h1
              omega
            have ey := List.getElem?_eq_getElem hlt'
            refine ⟨_, rfl, _, rfl, _, rfl, _, _, rfl, rfl, aR, _, _, nv r[j + k], rfl, rfl, SqL.of w3, ?_, _, rfl, _, rfl, aF, _, rfl, DPut.k (k := nk e) w4 lF, ?_⟩
            · have := atI_li ey
              rwa [show ((j + k : Nat) : Int) = (j : Int) + (k : Int) by omega] at this
            · have := hit r[j + k] (by rw [powF, hp, ey])
              rw [c] at this
              exact this
          · have hge' : r.length ≤ j + k := by
              refine Nat.le_of_not_lt fun h1 => hge (decide_eq_true ?_)
              rw [li_length]
              omega
            exact ⟨_, _, insn S' e, F', rfl, w1, w2, w3, w4, w5, M'.miss he (by rw [powF, hp, List.getElem?_eq_none hge']), sub', done'⟩
        · rw [c]
          refine iteT ?_
          have hp := ro.pow_closed c ee k
          have hlt := Nat.mod_lt (j + k) ro.pos
          have ey := List.getElem?_eq_getElem hlt
          refine ⟨_, rfl, _, rfl, _, rfl, _, _, rfl, rfl, _, rfl, aR, _, rfl, .inl (SqL.of w3), _, _, rfl, rfl, ?_, aR, _, _, nv r[(j + k) % r.length], rfl, rfl, SqL.of w3, ?_, _, rfl, _, rfl, aF, _, rfl, DPut.k (k := nk e) w4 lF, ?_⟩
          · have := ro.pos
            rw [li_length]
            omega
          · have := atI_li ey
            rw [li_length, show (j : Int) + (k : Int) = ((j + k : Nat) : Int) by omega, toNat_mod]
            exact this
          · have := hit r[(j + k) % r.length] (by rw [powF, hp, ey])
            rw [c] at this
            exact this
      · rintro σ Ha ⟨p9, p10, S', F', rfl, t, tl, tr, tf, tg, M', sub, done⟩
        refine ⟨_, _, _, _, _, _, S', F', rfl, t, tl, tf, tg, M', fun j z hj' ez => ?_⟩
        rcases Nat.lt_or_ge j i with h | h
        · exact sub z (hj j z h ez)
        · have : j = i := by omega
          subst this
          rw [ex] at ez; cases ez
          refine done x ?_
          rw [List.take_length]
          exact List.mem_of_getElem? ro.head
  · rintro σ H' ⟨o5, o6, o7, o8, o9, o10, S, F, rfl, s, hl, hf, hg, M, hj⟩
    refine ⟨_, rfl, q aF H' F hF0 s hf (M.rep hk fun x y e => ?_)⟩
    obtain ⟨j, ej⟩ := List.mem_iff_getElem?.mp (sall x y e)
    exact hj j x (List.getElem?_eq_some_iff.mp ej).1 ej
def sp_Map_power (K : PySem.W.Frag) : Sp := fun vs H Q _ => ∃ (p : Addr) (n k : Nat) (f : PF), vs = [.ref p, nv k] ∧ MapAt K H p n f ∧ 0 < k ∧ ∀ x H', H x = none → Same H H' → MapAt K H' x n (powF f k) → Q (.ref x) H'
theorem ok_Map_power (T : Txt K mg base) : Okd P w K mg base 7 (a_Map_power K) (sp_Map_power K) := by
  refine okd (d := d_Map_power) T 14 rfl rfl sc_Map_power (fun _ _ _ _ _ _ us hl => match us, hl with | [_, _], _ => rfl) (fun vs H Q E h => ?_) (fun cdv A outer s H vs Q E hr h => ?_)
  · obtain ⟨p, n, k, f, rfl, _⟩ := h; rfl
  obtain ⟨p, n, k, f, rfl, m, hk, q⟩ := h
  obtain ⟨dx, d, h1, h2⟩ := m.ob
  refine ⟨_, (pss_cons (ps_if (pt_not (pt_val (pe_cD (ok_is_integer T) (hr.mono (by decide)) T.g_is_integer (pa_cons (pv 1) pa_nil)))) (pss_one ps_never) pss_nil)
      (pss_cons (ps_set (i := 2) sc_Map_power.nd rfl (Or.inl rfl) (pe_fld (pv 0) rfl))
      (pss_cons (ps_if (pt_cmpR op_lt (pv 1) pe_int (nomark _)) (pss_one (ps_lock (ps_setDc (i := 2) (own := [("source", 3), ("target", 4)]) rfl sc_Map_power.nd rfl rfl (sw_trueD rfl rfl rfl (by decide +kernel)) (pi_items (pe_fld (pv 0) rfl)) (blkOk_by (N := N_Map_power) (sc := defScope s_Map_power) (by decide +kernel)) (fun _ _ _ _ _ => (pgK_tup (K := K) (n := 2) rfl rfl (pgs_cons (pg_name (i := 3) sc_Map_power.nd rfl (Or.inl rfl)) (pgs_cons (pg_name (i := 4) sc_Map_power.nd rfl (Or.inl rfl)) pgs_nil)))) (fun _ _ _ _ _ => pts_nil) (fun _ _ _ _ _ => (pv 4)) (fun _ _ _ _ _ => (pv 3))))) pss_nil)
      (pss_cons (ps_if (pt_cmpR op_eq (pv 1) pe_int (nomark _)) (pss_one (ps_ret (pe_cmD (ok_Map_identity T) (hr.mono (by decide)) rfl T.g_Map T.cread T.cmet (pa_cons (pe_fld (pv 0) rfl) pa_nil)))) pss_nil)
      (pss_one (ps_ret (pe_mkD (ok_Map_init T) T.mk_Map (hr.mono (by decide)) T.g_Map (pa_cons (pe_fld (pv 0) rfl) (pa_cons (pe_cD (ok_moved T) (hr.mono (by decide)) T.g_moved (pa_cons (pv 2) (pa_cons (pe_callB call_abs rfl T.f_abs (by decide +kernel) (pa_cons (pv 1) pa_nil)) pa_nil))) pa_nil))))))))), ?_⟩
  refine ⟨_, rfl, _, rfl, true, rfl, iteF ?_⟩
  refine ⟨_, rfl, p, _, dx, _, _, rfl, h1, T.cl_Map, T.n_Map_own_arrows, fM_arrows _ _, ?_⟩
  refine ⟨_, rfl, _, _, rfl, rfl, _, rfl, ?_⟩
  rw [decide_eq_false (show ¬ (k : Int) < 0 by omega)]
  refine iteF ?_
  refine ⟨_, rfl, rfl, _, rfl, ?_⟩
  have h0 : ¬ (nv k = V.int 0) := fun h => by have := V.int.inj h; omega
  rw [decide_eq_false h0]
  refine iteF ?_
  refine ⟨_, rfl, p, _, dx, _, _, rfl, h1, T.cl_Map, T.n_Map_own_size, fM_size _ _, ?_⟩
  refine ⟨_, rfl, _, rfl, _, rfl, ?_⟩
  rw [if_neg (show ¬ (k : Int) < 0 by omega)]
  refine ⟨d, n, k, f, rfl, h2, m.pi, m.n2, hk, fun a H' ps ha s ha' R => ?_⟩
  exact mk_map ha' R (powF_pi m.pi hk) m.n1 m.n2 fun x H'' hx s' m' => q x H'' (s.free hx) (s.trans s') m'
end
end K35
end

section
set_option Elab.async false
set_option linter.all false
set_option maxRecDepth 100000
set_option maxHeartbeats 4000000
/-! W5: numbers; the parts of a map. -/
namespace K35
open PySem PySem.Spec PyProof.Rows L2 CM
/-- rows of numbers stand at a -/
def RowsAt (H : Hp) (a : Addr) (xss : List (List Nat)) : Prop := ∃ qs : List (Addr × List Nat), qs.map (·.2) = xss ∧ H a = some (.lst (qs.map fun q => V.ref q.1)) ∧ ∀ q ∈ qs, LiAt H q.1 q.2
theorem RowsAt.same {H H' : Hp} {a : Addr} {xss : List (List Nat)} (r : RowsAt H a xss) (s : Same H H') : RowsAt H' a xss := by
  obtain ⟨qs, h1, h2, h3⟩ := r
  exact ⟨qs, h1, s _ _ h2, fun q hq => s _ _ (h3 q hq)⟩
section
variable {P : Program} {w : World} {K : PySem.W.Frag} {mg : Str → Option Value} {base : Heap}
def sp_greatest_divisor : Sp := fun vs H Q _ => ∃ a b : Nat, vs = [nv a, nv b] ∧ Q (nv (Nat.gcd a b)) H
theorem ok_greatest_divisor (T : Txt K mg base) : Okd P w K mg base 1 (a_greatest_divisor K) sp_greatest_divisor := by
  refine okd (d := d_greatest_divisor) T 24 rfl rfl sc_greatest_divisor (fun _ _ _ _ _ _ us hl => match us, hl with | [_, _], _ => rfl) (fun vs H Q E h => ?_) (fun cdv A outer s H vs Q E hr h => ?_)
  · obtain ⟨a, b, rfl, _⟩ := h; rfl
  obtain ⟨a, b, rfl, q⟩ := h
  refine ⟨_, (pss_cons (ps_while PassesOwn.never (pt_cmpR op_gt (pv 1) pe_int (nomark _)) (pss_one (ps_par (i := 0) (j := 1) rfl sc_greatest_divisor.nd rfl rfl (by decide) rfl rfl (pa_cons (pv 1) (pa_cons (pe_op op_mod (pv 0) (pv 1)) pa_nil)) (by rfl))))
      (pss_one (ps_ret (pv 0)))), ?_⟩
  refine ⟨fun m σ H' => ∃ a' b' : Nat, σ = [some (nv a'), some (nv b')] ∧ H' = H ∧ m = b' ∧ Nat.gcd a' b' = Nat.gcd a b, ⟨b, a, b, rfl, rfl, rfl, rfl⟩, ?_⟩
  rintro m σ H' ⟨a', b', rfl, rfl, rfl, e⟩
  refine ⟨_, rfl, _, _, rfl, rfl, _, rfl, ?_⟩
  refine ite2 (fun h => ?_) (fun h => ?_)
  · have hb : 0 < m := by have := of_decide_eq_true h; omega
    refine ⟨fun σ' H'' => _, fun σ' H'' z => z, _, rfl, _, rfl, _, rfl, _, _, rfl, rfl, by show (0 : Int) < m; omega, _, _, rfl, a' % m, Nat.mod_lt _ hb, m, a' % m, rfl, rfl, rfl, ?_⟩
    rw [← e, Nat.gcd_comm a' m, Nat.gcd_rec m a', Nat.gcd_comm]
  · have hb : m = 0 := by
      refine Nat.eq_zero_of_not_pos fun h1 => h (decide_eq_true ?_)
      omega
    subst hb
    rw [Nat.gcd_zero_right] at e
    exact ⟨_, rfl, by rw [e]; exact q⟩
def maxL (xs : List Nat) (least : Nat) : Nat := xs.foldl max least
def sp_largest : Sp := fun vs H Q _ => ∃ (a : Addr) (xs : List Nat) (b : Nat), vs = [.ref a, nv b] ∧ LiAt H a xs ∧ Q (nv (maxL xs b)) H
theorem ok_largest (T : Txt K mg base) : Okd P w K mg base 1 (a_largest K) sp_largest := by
  refine okd (d := d_largest) T 25 rfl rfl sc_largest (fun _ _ _ _ _ _ us hl => match us, hl with | [_, _], _ => rfl) (fun vs H Q E h => ?_) (fun cdv A outer s H vs Q E hr h => ?_)
  · obtain ⟨a, xs, b, rfl, _⟩ := h; rfl
  obtain ⟨a, xs, b, rfl, ha, q⟩ := h
  refine ⟨_, (pss_cons (ps_set (i := 2) sc_largest.nd rfl (Or.inl rfl) (pv 1))
      (pss_cons (ps_for PassesOwn.never rfl (pi_list (pv 0)) (pg_name (i := 3) sc_largest.nd rfl (Or.inl rfl))
      (pss_one (ps_if (pt_cmpR op_gt (pv 3) (pv 2) (nomark _)) (pss_one (ps_set (i := 2) sc_largest.nd rfl (Or.inl rfl) (pv 3))) pss_nil)))
      (pss_one (ps_ret (pv 2))))), ?_⟩
  refine ⟨_, rfl, _, rfl, a, rfl, ⟨_, SqL.of ha⟩, ?_⟩
  refine for_it walk_li (fun i σ H' => ∃ o, σ = [some (.ref a), some (nv b), some (nv (maxL (xs.take i) b)), o] ∧ H' = H) ⟨none, rfl, rfl⟩ (fun i σ H' _ ⟨_, _, e⟩ => by rw [e]; exact SqL.of ha) ?_ ?_
  · rintro i v σ H' H'' hi ⟨o, rfl, rfl⟩ ⟨rfl, ev⟩
    have e := List.getElem?_eq_getElem hi
    rw [li_get e] at ev
    cases ev
    have em : maxL (xs.take (i + 1)) b = max (maxL (xs.take i) b) xs[i] := by rw [maxL, List.take_succ, e, List.foldl_append]; rfl
    refine ⟨_, rfl, _, rfl, _, _, rfl, rfl, _, rfl, ?_⟩
    refine ite2 (fun h => ?_) (fun h => ?_)
    · have h1 : (maxL (xs.take i) b : Int) < (xs[i] : Int) := of_decide_eq_true h
      refine ⟨_, rfl, some (nv xs[i]), ?_, rfl⟩
      rw [em, Nat.max_eq_right (by omega)]; rfl
    · refine ⟨some (nv xs[i]), ?_, rfl⟩
      rw [em, Nat.max_eq_left (Nat.le_of_not_lt fun h1 => h (decide_eq_true (by omega)))]; rfl
  · rintro σ H' ⟨o, rfl, rfl⟩
    rw [List.take_length]
    exact ⟨_, rfl, q⟩
def sp_factorial : Sp := fun vs H Q _ => ∃ n : Nat, vs = [nv n] ∧ n ≤ 1000 ∧ Q (nv (fac n)) H
theorem ok_factorial (T : Txt K mg base) : Okd P w K mg base 1 (a_factorial K) sp_factorial := by
  refine okd (d := d_factorial) T 26 rfl rfl sc_factorial (fun _ _ _ _ _ _ us hl => match us, hl with | [_], _ => rfl) (fun vs H Q E h => ?_) (fun cdv A outer s H vs Q E hr h => ?_)
  · obtain ⟨n, rfl, _⟩ := h; rfl
  obtain ⟨n, rfl, hn, q⟩ := h
  refine ⟨_, (pss_cons (ps_set (i := 1) sc_factorial.nd rfl (Or.inl rfl) pe_int)
      (pss_cons (ps_for PassesOwn.never rfl (pi_range2 rfl T.f_range (pa_cons pe_int (pa_cons (pe_op op_add (pv 0) pe_int) pa_nil))) (pg_name (i := 2) sc_factorial.nd rfl (Or.inl rfl))
      (pss_one (ps_aug (i := 1) sc_factorial.nd rfl (Or.inl rfl) (pv 2) iop_mul)))
      (pss_one (ps_ret (pv 1))))), ?_⟩
  refine ⟨_, rfl, _, _, rfl, rfl, 1, (n : Int) + 1, rfl, ⟨by omega, by omega, by omega, by omega⟩, ?_⟩
  have e1 : (((n : Int) + 1) - 1).toNat = n := by omega
  rw [e1]
  refine for_it walk_range (fun i σ H' => ∃ o, σ = [some (nv n), some (nv (fac i)), o] ∧ H' = H) ⟨none, rfl, rfl⟩ (fun _ _ _ _ _ => trivial) ?_ ?_
  · rintro i v σ H' H'' hi ⟨o, rfl, rfl⟩ ⟨rfl, rfl⟩
    refine ⟨_, rfl, _, rfl, _, _, rfl, rfl, .inr ⟨by omega, by omega⟩, some (.int (1 + (i : Int))), ?_, rfl⟩
    have : (fac i : Int) * (1 + (i : Int)) = ((fac (i + 1) : Nat) : Int) := by
      rw [fac, Int.natCast_mul]
      congr 1
      omega
    show [some (nv n), some (V.int ((fac i : Int) * (1 + (i : Int)))), some (V.int (1 + (i : Int)))] = _
    rw [this]
  · rintro σ H' ⟨o, rfl, rfl⟩
    exact ⟨_, rfl, q⟩
def sp_power_of : Sp := fun vs H Q _ => ∃ b n : Nat, vs = [nv b, nv n] ∧ n ≤ 1000 ∧ b ≤ 1000 ∧ Q (nv (b ^ n)) H
theorem ok_power_of (T : Txt K mg base) : Okd P w K mg base 1 (a_power_of K) sp_power_of := by
  refine okd (d := d_power_of) T 27 rfl rfl sc_power_of (fun _ _ _ _ _ _ us hl => match us, hl with | [_, _], _ => rfl) (fun vs H Q E h => ?_) (fun cdv A outer s H vs Q E hr h => ?_)
  · obtain ⟨b, n, rfl, _⟩ := h; rfl
  obtain ⟨b, n, rfl, hn, hb, q⟩ := h
  refine ⟨_, (pss_cons (ps_set (i := 2) sc_power_of.nd rfl (Or.inl rfl) pe_int)
      (pss_cons (ps_for PassesOwn.never rfl (pi_range1 rfl T.f_range (pa_cons (pv 1) pa_nil)) (pg_name (i := 3) sc_power_of.nd rfl (Or.inl rfl))
      (pss_one (ps_aug (i := 2) sc_power_of.nd rfl (Or.inl rfl) (pv 0) iop_mul)))
      (pss_one (ps_ret (pv 2))))), ?_⟩
  refine ⟨_, rfl, n, rfl, by omega, by omega, ?_⟩
  rw [Int.toNat_natCast]
  refine for_it walk_range (fun i σ H' => ∃ o, σ = [some (nv b), some (nv n), some (nv (b ^ i)), o] ∧ H' = H) ⟨none, rfl, rfl⟩ (fun _ _ _ _ _ => trivial) ?_ ?_
  · rintro i v σ H' H'' hi ⟨o, rfl, rfl⟩ ⟨rfl, rfl⟩
    refine ⟨_, rfl, _, rfl, _, _, rfl, rfl, .inr ⟨by omega, by omega⟩, some (.int (0 + (i : Int))), ?_, rfl⟩
    have : ((b ^ i : Nat) : Int) * (b : Int) = ((b ^ (i + 1) : Nat) : Int) := by rw [Nat.pow_succ, Int.natCast_mul]
    show [some (nv b), some (nv n), some (V.int (((b ^ i : Nat) : Int) * (b : Int))), some (V.int (0 + (i : Int)))] = _
    rw [this]
  · rintro σ H' ⟨o, rfl, rfl⟩
    exact ⟨_, rfl, q⟩
theorem merge_bv : ∀ (r S : List Nat), mergeK (dv (bv S)) (dv (bv r)) = dv (bv (r.foldl insn S))
  | [], S => rfl
  | a :: r, S => by
    show mergeK (putK (dv (bv S)) (nk a) (.bl true)) (dv (bv r)) = _
    rw [put_dv, ptb_const, merge_bv r (insn S a)]
    rfl
def sp_parts_of (K : PySem.W.Frag) : Sp := fun vs H Q _ => ∃ (p : Addr) (n : Nat) (f : PF), vs = [.ref p] ∧ MapAt K H p n f ∧ ∀ t ac ah H', Same H H' → H' t = some (.tup [.ref ac, .ref ah]) → RowsAt H' ac (cys n f) → RowsAt H' ah (chs n f) → Q (.ref t) H'
/-- {one: True for one in rows[-1]} and its update -/
theorem seen_upd {σ : L2.St} {H : Hp} {aS aC r : Addr} {S xs : List Nat} {ps : List Addr} {j : Nat} {Q : VK} (h6 : σ[6]? = some (some (.ref aS))) (hj : σ[j]? = some (some (.ref aC))) (hS : H aS = some (.dK (dv (bv S)))) (hC : H aC = some (.lst (ps.map V.ref ++ [.ref r]))) (hr : LiAt H r xs)
    (nd : xs.Nodup) (l1 : xs.length ≤ 12) (l2 : S.length ≤ 12) (hw : ∀ v, wipe ((wipe σ [8]).set 8 (some v)) [8] = wipe σ [8]) (h8 : ∀ v, ((wipe σ [8]).set 8 (some v))[8]? = some (some v)) (q : ∀ D H', H D = none → D ≠ aS → Same H H' → Q .non (upd H' aS (.dK (dv (bv (xs.foldl insn S)))))) :
    tBM K "dict" rDUpd (tVar 6) (tCons (tDc (iList K (tOp (rIxL K) (tVar j) (tUn (rU fun i => V.int (-i)) (tC (V.int 1))))) (gName 8) tYes (tVar 8) (tC (.bl true)) [8]) tNil) σ H Q := by
  refine ⟨_, h6, .inr (.inr (.inl ⟨rfl, .inl ⟨_, hS⟩⟩)), _, hj, 1, rfl, aC, _, _, _, rfl, rfl, SqL.of hC, atI_last _ _, r, rfl, ⟨_, SqL.of hr⟩, ?_⟩
  have ev : (xs.filterMap fun x => some (x, V.bl true)) = bv xs := by rw [List.filterMap_eq_map']
  refine dc_li walk_li (fun H' s => SqL.of (s _ _ hr)) hw (fun x => some (x, .bl true)) (by rw [ev, bv_keys]; exact nd) (by omega) (fun x H' hx s => Et.yes) (fun x x' v H' hx e s Q' q' => ?_) (fun x x' v H' hx e s Q' q' => ?_) fun D H2 s2 hD h2 => ?_
  · cases e; exact ⟨_, h8 _, q'⟩
  · cases e; exact q'
  rw [ev] at h2
  have ne : aS ≠ D := ne_of_none hS hD
  refine ⟨aS, D, _, _, rfl, rfl, ne, s2 _ _ hS, h2, ?_, ?_⟩
  · rw [dv_length, dv_length, List.length_map, List.length_map]
    exact Nat.le_of_lt (small12 (by omega))
  · rw [merge_bv]
    exact q D H2 hD ne.symm s2
/-- the rows among the lists that are being filled -/
def RIn (H : Hp) (a b : Addr) (qs : List (Addr × List Nat)) : Prop := ∀ q ∈ qs, LiAt H q.1 q.2 ∧ q.1 ≠ a ∧ q.1 ≠ b
theorem ok_parts_of (T : Txt K mg base) : Okd P w K mg base 3 (a_parts_of K) (sp_parts_of K) := by
  refine okd (d := d_parts_of) T 28 rfl rfl sc_parts_of (fun _ _ _ _ _ _ us hl => match us, hl with | [_], _ => rfl) (fun vs H Q E h => ?_) (fun cdv A outer s H vs Q E hr h => ?_)
  · obtain ⟨p, n, f, rfl, _⟩ := h; rfl
  obtain ⟨p, n, f, rfl, m, q⟩ := h
  obtain ⟨dx, d, h1, h2⟩ := m.ob
  have n2 := m.n2
  refine ⟨_, (pss_cons (ps_par (i := 1) (j := 2) rfl sc_parts_of.nd rfl rfl (by decide) rfl rfl (pa_cons (pe_prD (ok_Map_arrows T) (hr.mono (by decide)) T.cl_Map T.p_Map_arrows (pv 0)) (pa_cons (pe_dc (own := [("target", 3)]) rfl sc_parts_of.nd (pi_values (pe_lk (pe_prD (ok_Map_arrows T) (hr.mono (by decide)) T.cl_Map T.p_Map_arrows (pv 0)))) (blkOk_by (N := N_parts_of) (sc := defScope s_parts_of) (by decide +kernel)) (fun _ _ _ _ _ => (pg_name (i := 3) sc_parts_of.nd rfl (Or.inl rfl))) (fun _ _ _ _ _ => pts_nil) (fun _ _ _ _ _ => (pv 3)) (fun _ _ _ _ _ => pe_bl)) pa_nil)) (by rfl))
      (pss_cons (ps_par3 (i := 4) (j := 5) (l := 6) rfl sc_parts_of.nd rfl rfl rfl (by decide) (by decide) (by decide) rfl rfl rfl (pa_cons (pe_lst pa_nil) (pa_cons (pe_lst pa_nil) (pa_cons pe_dnewK pa_nil))) (by rfl))
      (pss_cons (ps_for PassesOwn.never rfl (pi_range1 rfl T.f_range (pa_cons (pe_prD (ok_Map_size T) (hr.mono (by decide)) T.cl_Map T.p_Map_size (pv 0)) pa_nil)) (pg_name (i := 7) sc_parts_of.nd rfl (Or.inl rfl))
      (pss_one (ps_if (pt_cmp (pc_dnotin (hu_of hr) (pv 7) (pv 2))) (pss_cons (ps_expr (pe_bm PySem.F.plainAttrs_list PySem.F.slot_list_append PySem.F.type_list_append mt_append (pv 5) (pa_cons (pe_cD (ok_row_from T) (hr.mono (by decide)) T.g_row_from (pa_cons (pv 1) (pa_cons (pv 7) pa_nil))) pa_nil)))
      (pss_one (ps_expr (pe_bm PySem.F.plainAttrs_dict PySem.F.slot_dict_update PySem.F.type_dict_update mt_dupd (pv 6) (pa_cons (pe_dc (own := [("one", 8)]) rfl sc_parts_of.nd (pi_list (pe_ix ix_list (pv 5) (pe_un un_neg pe_int) (fun _ _ => rfl))) (blkOk_by (N := N_parts_of) (sc := defScope s_parts_of) (by decide +kernel)) (fun _ _ _ _ _ => (pg_name (i := 8) sc_parts_of.nd rfl (Or.inl rfl))) (fun _ _ _ _ _ => pts_nil) (fun _ _ _ _ _ => (pv 8)) (fun _ _ _ _ _ => pe_bl)) pa_nil))))) pss_nil)))
      (pss_cons (ps_for PassesOwn.never rfl (pi_range1 rfl T.f_range (pa_cons (pe_prD (ok_Map_size T) (hr.mono (by decide)) T.cl_Map T.p_Map_size (pv 0)) pa_nil)) (pg_name (i := 7) sc_parts_of.nd rfl (Or.inl rfl))
      (pss_one (ps_if (pt_cmp (pc_dnotin (hu_of hr) (pv 7) (pv 6))) (pss_cons (ps_expr (pe_bm PySem.F.plainAttrs_list PySem.F.slot_list_append PySem.F.type_list_append mt_append (pv 4) (pa_cons (pe_cD (ok_row_from T) (hr.mono (by decide)) T.g_row_from (pa_cons (pv 1) (pa_cons (pv 7) pa_nil))) pa_nil)))
      (pss_one (ps_expr (pe_bm PySem.F.plainAttrs_dict PySem.F.slot_dict_update PySem.F.type_dict_update mt_dupd (pv 6) (pa_cons (pe_dc (own := [("one", 8)]) rfl sc_parts_of.nd (pi_list (pe_ix ix_list (pv 4) (pe_un un_neg pe_int) (fun _ _ => rfl))) (blkOk_by (N := N_parts_of) (sc := defScope s_parts_of) (by decide +kernel)) (fun _ _ _ _ _ => (pg_name (i := 8) sc_parts_of.nd rfl (Or.inl rfl))) (fun _ _ _ _ _ => pts_nil) (fun _ _ _ _ _ => (pv 8)) (fun _ _ _ _ _ => pe_bl)) pa_nil))))) pss_nil)))
      (pss_one (ps_ret (pe_tup (pa_cons (pv 4) (pa_cons (pv 5) pa_nil))))))))), ?_⟩
  refine ⟨_, rfl, p, dx, _, rfl, h1, p, n, f, rfl, m, fun dA hdA => ?_⟩
  have sA := same_new (o := .dK (dk (arr n f))) (Same.refl H) hdA
  have m1 := m.same sA
  refine ⟨_, rfl, p, dx, _, rfl, sA _ _ h1, p, n, f, rfl, m1, fun dB hdB => ⟨dB, _, rfl, upd_same, True.intro, fun od => ?_⟩⟩
  refine ⟨dB, od, _, rfl, upd_same, ?_⟩
  have ev : (((arr n f).map (·.2)).filterMap fun x => some (x, V.bl true)) = bv ((arr n f).map (·.2)) := by rw [List.filterMap_eq_map']
  refine dc_li walk_liV (fun H' s => s _ _ upd_same) (by intros; rfl) (fun x => some (x, .bl true)) (by rw [ev, bv_keys]; exact (arr_rep m.pi).vals m.pi) (by rw [List.length_map]; have := m.small; omega) (fun x H' hx s => Et.yes) (fun x x' v H' hx e s Q' q' => ?_) (fun x x' v H' hx e s Q' q' => ?_) fun dT H4 s4 hT t4 => ?_
  · cases e; exact ⟨_, rfl, q'⟩
  · cases e; exact q'
  rw [ev] at t4
  have sA4 : Same (upd H dA (.dK (dk (arr n f)))) H4 := fun b o e => s4 b o (by
    have nb := ne_of_none e hdB
    rw [upd_ne nb, upd_ne nb]; exact e)
  have s4' := sA.trans sA4
  have A4 : H4 dA = some (.dK (dk (arr n f))) := sA4 _ _ upd_same
  have m4 := m.same s4'
  clear s4 sA4 hT ev
  refine ⟨_, _, rfl, by show 0 ≤ sizeLine; decide, fun aC hC => ⟨by show 0 ≤ sizeLine; decide, fun aH hH aS hS => ⟨_, _, _, rfl, ?_⟩⟩⟩
  have nCH : aC ≠ aH := ne_of_none upd_same hH
  have hH4 : H4 aH = none := by rw [upd_ne nCH.symm] at hH; exact hH
  have c5 : (upd (upd (upd H4 aC (.lst [])) aH (.lst [])) aS (.dK [])) aC = some (.lst []) := by
    have : (upd (upd H4 aC (.lst [])) aH (.lst [])) aC = some (.lst []) := by rw [upd_ne nCH, upd_same]
    rw [upd_ne (ne_of_none this hS)]; exact this
  have h5 : (upd (upd (upd H4 aC (.lst [])) aH (.lst [])) aS (.dK [])) aH = some (.lst []) := by
    have : (upd (upd H4 aC (.lst [])) aH (.lst [])) aH = some (.lst []) := upd_same
    rw [upd_ne (ne_of_none this hS)]; exact this
  have s5 : Same H4 (upd (upd (upd H4 aC (.lst [])) aH (.lst [])) aS (.dK [])) := same_new (same_new (same_new (Same.refl _) hC) hH) hS
  have hS4 : H4 aS = none := (same_new (same_new (Same.refl H4) hC) hH).free hS
  have g5 : (upd (upd (upd H4 aC (.lst [])) aH (.lst [])) aS (.dK [])) aS = some (.dK []) := upd_same
  generalize (upd (upd (upd H4 aC (.lst [])) aH (.lst [])) aS (.dK [])) = H5 at c5 h5 s5 g5
  clear hS hH
  obtain ⟨dx5, d5, h15, _⟩ := (m4.same s5).ob
  refine ⟨_, rfl, p, dx5, _, rfl, h15, p, n, f, rfl, m4.same s5, n, rfl, by omega, by omega, ?_⟩
  rw [Int.toNat_natCast]
  refine for_it walk_range0 (fun i σ H' => ∃ o7 qs S, σ = [some (.ref p), some (.ref dA), some (.ref dT), none, some (.ref aC), some (.ref aH), some (.ref aS), o7, none] ∧ Same H4 H' ∧ H' aC = some (.lst []) ∧ H' aH = some (.lst (qs.map fun q => V.ref q.1)) ∧ RIn H' aC aH qs ∧
      qs.map (·.2) = ((List.range i).filter fun x => (invF n f x).isNone).map (row n f) ∧ H' aS = some (.dK (dv (bv S))) ∧ S.Nodup ∧ (∀ z ∈ S, z < n) ∧ ∀ z, z ∈ S ↔ z ∈ (qs.map (·.2)).flatten)
    ⟨none, [], [], rfl, s5, c5, h5, fun _ h => (by cases h), rfl, g5, List.nodup_nil, fun _ h => (by cases h), fun z => Iff.rfl⟩ (fun _ _ _ _ _ => trivial) ?_ ?_
  · rintro i v σ H' H'' hi ⟨o7, qs, S, rfl, s, hc, hh, rin, eq, hg, nd, lt, mem⟩ ⟨rfl, rfl⟩
    refine ⟨_, rfl, _, rfl, dT, _, rfl, dget (.inl (s _ _ t4)) rfl, _, rfl, ?_⟩
    rw [lk_bv, vals_inv m.pi]
    have efs := range_filter_succ (fun x => (invF n f x).isNone) i
    cases e : invF n f i with
    | some y =>
      rw [e] at efs
      refine iteF ⟨_, qs, S, rfl, s, hc, hh, rin, ?_, hg, nd, lt, mem⟩
      rw [efs, eq]; simp
    | none =>
      rw [e] at efs
      have lenq : qs.length ≤ 12 := by
        have := congrArg List.length eq
        rw [List.length_map, List.length_map] at this
        have h3 := List.length_filter_le (fun x => (invF n f x).isNone) (List.range i)
        rw [List.length_range] at h3
        omega
      refine iteT ⟨_, rfl, .inl ⟨rfl, _, SqL.of hh⟩, _, rfl, _, rfl, dA, i, n, f, rfl, s _ _ A4, m.pi, hi, n2, fun r H6 hr6 s6 l6 => ⟨aH, _, _, rfl, rfl, s6 _ _ hh, ?_, ?_⟩⟩
      · rw [List.length_map]; exact small12 (by omega)
      have ro := row_ok m.pi hi
      have rl := ro.lt m.pi hi
      have nrH : r ≠ aH := (ne_of_none hh hr6).symm
      have nrC : r ≠ aC := (ne_of_none hc hr6).symm
      have hgH : aS ≠ aH := ne_of hg hh (by intro z; cases z)
      have Sl := pigeon nd lt
      refine seen_upd (S := S) (xs := row n f i) (ps := qs.map (·.1)) (r := r) (aC := aH) rfl rfl (by rw [upd_ne hgH]; exact s6 _ _ hg) (by rw [upd_same, List.map_map]; rfl) (by rw [LiAt, upd_ne nrH]; exact l6) ro.nd (by have := ro.small m.pi hi; omega) (by omega) (by intros; rfl) (by intros; rfl) fun D H8 hD nD s8 => ?_
      obtain ⟨nd', mem'⟩ := foldl_insn (row n f i) S nd
      have k8 : ∀ b o, H'' b = some o → b ≠ aH → b ≠ aS → (upd H8 aS (.dK (dv (bv ((row n f i).foldl insn S))))) b = some o := fun b o e n1 n2 => by
        rw [upd_ne n2]
        exact s8 _ _ (by rw [upd_ne n1]; exact s6 _ _ e)
      have hcS : aC ≠ aS := ne_of hc hg (by intro z; cases z)
      refine ⟨_, qs ++ [(r, row n f i)], _, rfl, fun b o e => k8 b o (s _ _ e) (ne_of_none e hH4) (ne_of_none e hS4), k8 _ _ hc nCH hcS, ?_, fun q hq => ?_, ?_, upd_same, nd', fun z hz => ?_, fun z => ?_⟩
      · rw [upd_ne hgH.symm, s8 _ _ upd_same, List.map_append]; rfl
      · rcases List.mem_append.mp hq with h | h
        · obtain ⟨a1, a2, a3⟩ := rin q h
          exact ⟨k8 _ _ a1 a3 (ne_of a1 hg (by intro z; cases z)), a2, a3⟩
        · have : q = (r, row n f i) := by simpa using h
          subst this
          refine ⟨?_, nrC, nrH⟩
          have nrS : r ≠ aS := (ne_of_none hg hr6).symm
          show (upd H8 aS _) r = _
          rw [upd_ne nrS]
          exact s8 _ _ (by rw [upd_ne nrH]; exact l6)
      · rw [efs, List.map_append, List.map_append, eq]; rfl
      · exact ((mem' z).mp hz).elim (lt z) (rl z)
      · rw [mem', mem, List.map_append, List.flatten_append, List.mem_append]
        simp
  · rintro σ H6 ⟨o7, hs, S0, rfl, s6, c6, h6, rin0, eq0, g6, nd0, lt0, mem0⟩
    have ech : hs.map (·.2) = chs n f := eq0
    obtain ⟨dx6, d6, h16, _⟩ := (m4.same s6).ob
    refine ⟨_, rfl, p, dx6, _, rfl, h16, p, n, f, rfl, m4.same s6, n, rfl, by omega, by omega, ?_⟩
    rw [Int.toNat_natCast]
    refine for_it walk_range0 (fun i σ H' => ∃ o7 qs S S', σ = [some (.ref p), some (.ref dA), some (.ref dT), none, some (.ref aC), some (.ref aH), some (.ref aS), o7, none] ∧ Same H4 H' ∧ H' aC = some (.lst (qs.map fun q => V.ref q.1)) ∧ H' aH = some (.lst (hs.map fun q => V.ref q.1)) ∧ RIn H' aC aH qs ∧ RIn H' aC aH hs ∧
        cys n f = qs.map (·.2) ++ cycGo n f ((List.range n).drop i) S' ∧ H' aS = some (.dK (dv (bv S))) ∧ S.Nodup ∧ (∀ z ∈ S, z < n) ∧ (∀ z, z ∈ S ↔ z ∈ S') ∧ qs.length ≤ i)
      ⟨o7, [], S0, (chs n f).flatten, rfl, s6, c6, h6, fun _ h => (by cases h), rin0, rfl, g6, nd0, lt0, fun z => by rw [mem0, ech], Nat.le_refl _⟩ (fun _ _ _ _ _ => trivial) ?_ ?_
    · rintro i v σ H' H'' hi ⟨o7, qs, S, S', rfl, s, hc, hh, rin, rinh, eq, hg, nd, lt, mem, lenq⟩ ⟨rfl, rfl⟩
      refine ⟨_, rfl, _, rfl, aS, _, rfl, dget (.inl hg) rfl, _, rfl, ?_⟩
      rw [lk_bv]
      rw [CM.range_drop hi, cycGo] at eq
      by_cases hiS : i ∈ S
      · rw [decide_eq_true hiS]
        rw [if_pos ((mem i).mp hiS)] at eq
        exact iteF ⟨_, qs, S, S', rfl, s, hc, hh, rin, rinh, eq, hg, nd, lt, mem, by omega⟩
      · rw [decide_eq_false hiS]
        rw [if_neg fun z => hiS ((mem i).mpr z)] at eq
        refine iteT ⟨_, rfl, .inl ⟨rfl, _, SqL.of hc⟩, _, rfl, _, rfl, dA, i, n, f, rfl, s _ _ A4, m.pi, hi, n2, fun r H6 hr6 s6 l6 => ⟨aC, _, _, rfl, rfl, s6 _ _ hc, ?_, ?_⟩⟩
        · rw [List.length_map]; exact small12 (by omega)
        have ro := row_ok m.pi hi
        have rl := ro.lt m.pi hi
        have nrH : r ≠ aH := (ne_of_none hh hr6).symm
        have nrC : r ≠ aC := (ne_of_none hc hr6).symm
        have hgC : aS ≠ aC := ne_of hg hc (by intro z; cases z)
        have Sl := pigeon nd lt
        refine seen_upd (S := S) (xs := row n f i) (ps := qs.map (·.1)) (r := r) (aC := aC) rfl rfl (by rw [upd_ne hgC]; exact s6 _ _ hg) (by rw [upd_same, List.map_map]; rfl) (by rw [LiAt, upd_ne nrC]; exact l6) ro.nd (by have := ro.small m.pi hi; omega) (by omega) (by intros; rfl) (by intros; rfl) fun D H8 hD nD s8 => ?_
        obtain ⟨nd', mem'⟩ := foldl_insn (row n f i) S nd
        have k8 : ∀ b o, H'' b = some o → b ≠ aC → b ≠ aS → (upd H8 aS (.dK (dv (bv ((row n f i).foldl insn S))))) b = some o := fun b o e n1 n2 => by
          rw [upd_ne n2]
          exact s8 _ _ (by rw [upd_ne n1]; exact s6 _ _ e)
        have hhS : aH ≠ aS := ne_of hh hg (by intro z; cases z)
        refine ⟨_, qs ++ [(r, row n f i)], _, S' ++ row n f i, rfl, fun b o e => k8 b o (s _ _ e) (ne_of_none e hC) (ne_of_none e hS4), ?_, k8 _ _ hh nCH.symm hhS, fun q hq => ?_, fun q hq => ?_, ?_, upd_same, nd', fun z hz => ?_, fun z => ?_, ?_⟩
        · rw [upd_ne hgC.symm, s8 _ _ upd_same, List.map_append]; rfl
        · rcases List.mem_append.mp hq with h | h
          · obtain ⟨a1, a2, a3⟩ := rin q h
            exact ⟨k8 _ _ a1 a2 (ne_of a1 hg (by intro z; cases z)), a2, a3⟩
          · have : q = (r, row n f i) := by simpa using h
            subst this
            refine ⟨?_, nrC, nrH⟩
            have nrS : r ≠ aS := (ne_of_none hg hr6).symm
            show (upd H8 aS _) r = _
            rw [upd_ne nrS]
            exact s8 _ _ (by rw [upd_ne nrC]; exact l6)
        · obtain ⟨a1, a2, a3⟩ := rinh q hq
          exact ⟨k8 _ _ a1 a2 (ne_of a1 hg (by intro z; cases z)), a2, a3⟩
        · rw [eq, List.map_append, List.append_assoc]; rfl
        · exact ((mem' z).mp hz).elim (lt z) (rl z)
        · rw [mem', mem, List.mem_append]
        · rw [List.length_append]; show qs.length + 1 ≤ i + 1; omega
    · rintro σ H7 ⟨o7', qs, S, S', rfl, s, hc, hh, rin, rinh, eq, _⟩
      rw [List.drop_eq_nil_of_le (by rw [List.length_range]; exact Nat.le_refl _), cycGo, List.append_nil] at eq
      refine ⟨_, rfl, _, rfl, by show 2 ≤ sizeLine; decide, fun t ht => ?_⟩
      have st := same_new (o := .tup [.ref aC, .ref aH]) (Same.refl H7) ht
      exact q t aC aH _ ((s4'.trans s).trans st) upd_same ⟨qs, eq.symm, st _ _ hc, fun q hq => st _ _ (rin q hq).1⟩ ⟨hs, ech, st _ _ hh, fun q hq => st _ _ (rinh q hq).1⟩
end
end K35
end

section
set_option Elab.async false
set_option linter.all false
set_option maxRecDepth 100000
set_option maxHeartbeats 4000000
/-! D2: lists and tuples as data, for == and !=. -/
namespace K35
open PySem PySem.Spec PyProof.Rows L2 CM
section
variable {α : Type}
theorem lay_map {f : α → PyData} (h : ∀ x, (f x).canLay0 = true) : ∀ l : List α, PyData.canLayAll0 (l.map f) = true
  | [] => by simp only [List.map_nil, PyData.canLayAll0]
  | a :: l => by simp only [List.map_cons, PyData.canLayAll0, h a, lay_map h l, Bool.and_self]
theorem depth_map {f : α → PyData} {k : Nat} (h : ∀ x, (f x).depth ≤ k) : ∀ l : List α, PyData.depthAll (l.map f) ≤ k
  | [] => by simp [PyData.depthAll]
  | a :: l => by
    have := depth_map h l
    have := h a
    simp only [List.map_cons, PyData.depthAll]
    omega
end
abbrev pI (x : Nat) : PyData := .int (x : Int)
abbrev pL (xs : List Nat) : PyData := .list (xs.map pI)
abbrev pR (xss : List (List Nat)) : PyData := .list (xss.map pL)
theorem pI_lay (x : Nat) : (pI x).canLay0 = true ∧ (pI x).depth ≤ 1 := by simp [PyData.canLay0, PyData.depth]
theorem pL_lay (xs : List Nat) : (pL xs).canLay0 = true ∧ (pL xs).depth ≤ 2 := by
  have h1 := lay_map (fun x => (pI_lay x).1) xs
  have h2 := depth_map (fun x => (pI_lay x).2) xs
  constructor
  · simp only [pL, PyData.canLay0]; exact h1
  · simp only [pL, PyData.depth]; omega
theorem pR_lay (xss : List (List Nat)) : (pR xss).canLay0 = true ∧ (pR xss).depth ≤ 3 := by
  have h1 := lay_map (fun x => (pL_lay x).1) xss
  have h2 := depth_map (fun x => (pL_lay x).2) xss
  constructor
  · simp only [pR, PyData.canLay0]; exact h1
  · simp only [pR, PyData.depth]; omega
theorem shaped_of {d : PyData} {k : Nat} (h : d.canLay0 = true ∧ d.depth ≤ k) (hk : k ≤ 64 := by decide) : SeqAt.shaped d = true := by
  unfold SeqAt.shaped
  rw [h.1, Bool.true_and]
  exact decide_eq_true (Nat.le_trans h.2 hk)
section
variable {K : PySem.W.Frag} {H : Hp}
theorem dpA_ints : ∀ xs : List Nat, DpAll K H (li xs) (xs.map pI)
  | [] => .nil
  | x :: xs => .cons (.int _) (dpA_ints xs)
theorem dp_li {a : Addr} {xs : List Nat} (h : LiAt H a xs) : Dp K H (.ref a) (pL xs) := .lst (SqL.of h) (dpA_ints xs)
theorem dp_rows {a : Addr} {xss : List (List Nat)} (h : RowsAt H a xss) : Dp K H (.ref a) (pR xss) := by
  obtain ⟨qs, rfl, ha, hq⟩ := h
  refine .lst (SqL.of ha) ?_
  rw [List.map_map]
  clear ha
  induction qs with
  | nil => exact .nil
  | cons q qs ih => exact .cons (dp_li (hq q List.mem_cons_self)) (ih fun r hr => hq r (List.mem_cons_of_mem _ hr))
theorem dp_nil {a : Addr} (h : H a = some (.lst [])) : Dp K H (.ref a) (pR []) := .lst (SqL.of h) .nil
theorem pR_nil (xss : List (List Nat)) : PyData.eqv (pR xss) (pR []) = decide (xss = []) := by
  cases xss with
  | nil => simp [PyData.eqv, PyData.eqvAll]
  | cons a l => simp [PyData.eqv, PyData.eqvAll]
end
end K35
end

section
set_option Elab.async false
set_option linter.all false
set_option maxRecDepth 100000
set_option maxHeartbeats 4000000
/-! W6: shapes. -/
namespace K35
open PySem PySem.Spec PyProof.Rows L2 CM
theorem ks_b : ¬ (("own_cycles" : Str) = "own_chains") := by decide +kernel
def fS (d e : Addr) : List (Str × V) := putF "own_chains" (.ref e) (putF "own_cycles" (.ref d) [])
theorem fS_chains (d e : Addr) : (fS d e).lookup ("own_chains" : Str) = some (.ref e) := by
  unfold fS
  rw [lookup_putF, if_pos rfl]
theorem fS_cycles (d e : Addr) : (fS d e).lookup ("own_cycles" : Str) = some (.ref d) := by
  unfold fS
  rw [lookup_putF, if_neg (fun z => ks_b z), lookup_putF, if_pos rfl]
/-- the table of counted lengths -/
abbrev tab (ls : List Nat) : List (Nat × Nat) := arr 13 (cf ls)
structure ShAt (K : PySem.W.Frag) (H : Hp) (p : Addr) (ls ks : List Nat) : Prop where
  ob : ∃ dx d e, H p = some (.ins (C_Shape K) dx (fS d e)) ∧ H d = some (.dK (dk (tab ls))) ∧ H e = some (.dK (dk (tab ks)))
  sh : Sh ls ks
theorem ShAt.same {K : PySem.W.Frag} {H H' : Hp} {p : Addr} {ls ks : List Nat} (m : ShAt K H p ls ks) (s : Same H H') : ShAt K H' p ls ks := by
  obtain ⟨dx, d, e, h1, h2, h3⟩ := m.ob
  exact ⟨⟨dx, d, e, s _ _ h1, s _ _ h2, s _ _ h3⟩, m.sh⟩
theorem tab_rep {ls : List Nat} (h : ∀ L ∈ ls, L < 13) : Rep (tab ls) (cf ls) := arr_repD (cf_dom h)
theorem tab_len (ls : List Nat) : (tab ls).length ≤ 13 := arr_len _ _
theorem nat_of {ns : List Int} {ks : List Nat} (p : ns.Perm (ks.map fun (x : Nat) => (x : Int))) : ∃ qs : List Nat, ns = qs.map (fun (x : Nat) => (x : Int)) ∧ qs.Perm ks := by
  have q := p.map Int.toNat
  rw [List.map_map] at q
  have e : ks.map (Int.toNat ∘ fun (x : Nat) => (x : Int)) = ks := by
    refine (List.map_congr_left fun x _ => ?_).trans (List.map_id ks)
    exact Int.toNat_natCast x
  rw [e] at q
  refine ⟨ns.map Int.toNat, ?_, q⟩
  rw [List.map_map]
  refine (List.map_id ns).symm.trans (List.map_congr_left fun x hx => ?_)
  obtain ⟨y, _, rfl⟩ := List.mem_map.mp (p.mem_iff.mp hx)
  show (y : Int) = ((Int.toNat (y : Int) : Nat) : Int)
  rw [Int.toNat_natCast]
section
variable {P : Program} {w : World} {K : PySem.W.Frag} {mg : Str → Option Value} {base : Heap}
def sp_are_counts : Sp := fun vs H Q _ => ∃ (d : Addr) (ps : List (Nat × Nat)), vs = [.ref d] ∧ H d = some (.dK (dk ps)) ∧ (∀ p ∈ ps, 0 < p.1 ∧ 0 < p.2) ∧ ps.length ≤ 1000 ∧ ∀ H', Same H H' → Q (.bl true) H'
theorem ok_are_counts (T : Txt K mg base) : Okd P w K mg base 2 (a_are_counts K) sp_are_counts := by
  refine okd (d := d_are_counts) T 29 rfl rfl sc_are_counts (fun _ _ _ _ _ _ us hl => match us, hl with | [_], _ => rfl) (fun vs H Q E h => ?_) (fun cdv A outer s H vs Q E hr h => ?_)
  · obtain ⟨d, ps, rfl, _⟩ := h; rfl
  obtain ⟨d, ps, rfl, hd, pos, len, q⟩ := h
  refine ⟨_, (pss_cons (ps_if (pt_not (pt_val (pe_callB call_isi rfl T.f_isinstance (by decide +kernel) (pa_cons (pv 0) (pa_cons (pe_bltn rfl T.f_dict (by decide +kernel) (show RelV (.ty "dict") _ from rfl)) pa_nil))))) (pss_one (ps_ret pe_bl)) pss_nil)
      (pss_one (ps_ret (pe_callB (cr_all rfl) rfl T.f_all (by decide +kernel) (pa_cons (pe_lock (pe_lc (own := [("one", 1), ("number", 2)]) rfl sc_are_counts.nd (pi_items (pv 0)) (blkOk_by (N := N_are_counts) (sc := defScope s_are_counts) (by decide +kernel)) (fun _ _ _ _ _ => (pgK_tup (K := K) (n := 2) rfl rfl (pgs_cons (pg_name (i := 1) sc_are_counts.nd rfl (Or.inl rfl)) (pgs_cons (pg_name (i := 2) sc_are_counts.nd rfl (Or.inl rfl)) pgs_nil)))) (fun _ _ _ _ _ => pts_nil) (fun _ _ _ _ _ => (pe_and (pe_cD (ok_is_integer T) (hr.mono (by decide)) T.g_is_integer (pa_cons (pv 1) pa_nil)) (pe_and (pe_cD (ok_is_integer T) (hr.mono (by decide)) T.g_is_integer (pa_cons (pv 2) pa_nil)) (pe_and (pe_cmpR op_gt (pv 1) pe_int (nomark _)) (pe_one (pe_cmpR op_gt (pv 2) pe_int (nomark _))))))))) pa_nil))))), ?_⟩
  refine ⟨_, rfl, _, .ty "dict", .type "dict", .type "dict", true, rfl, .ty "dict", .base (.dK hd), kit_ty (by decide +kernel), true, rfl, iteF ?_⟩
  refine ⟨d, .dK (dk ps), hd, True.intro, fun od => ?_⟩
  refine ⟨_, rfl, d, od, _, rfl, upd_same, ?_⟩
  refine lc_items upd_same (by intros; rfl) (fun p => some (.bl true)) len (fun x y H' hm s => Et.yes) (fun x y v H' hm e s Q' q' => ?_) fun D H3 s3 hD h3 => ?_
  · cases e
    obtain ⟨p1, p2⟩ := pos _ hm
    refine ⟨_, rfl, _, rfl, true, rfl, iteT ⟨_, rfl, _, rfl, true, rfl, iteT ⟨_, rfl, _, _, rfl, rfl, true, ?_, iteT ⟨_, rfl, _, _, rfl, rfl, ?_⟩⟩⟩⟩
    · show V.bl (decide ((0 : Int) < x)) = V.bl true
      rw [decide_eq_true (by omega)]
    · show Q' (V.bl (decide ((0 : Int) < y))) H'
      rw [decide_eq_true (by omega)]; exact q'
  · obtain ⟨n1, n2⟩ := lock_none hd hD
    refine ⟨s3 _ _ upd_same, D, ps.map fun _ => true, rfl, SqL.of ?_, ?_⟩
    · rw [upd_ne n2, h3, List.map_map, List.filterMap_eq_map']; rfl
    · rw [List.all_map]
      have : (ps.all (id ∘ fun _ => true)) = true := by simp
      rw [this]
      exact q _ (lock_back hd s3)
def sp_ordered : Sp := fun vs H Q _ => ∃ (d : Addr) (ps : List (Nat × Nat)) (ls : List Nat), vs = [.ref d] ∧ H d = some (.dK (dk ps)) ∧ Rep ps (cf ls) ∧ (∀ L ∈ ls, L < 13) ∧ ∀ a H', H a = none → Same H H' → H' a = some (.dK (dk (tab ls))) → Q (.ref a) H'
theorem ok_ordered (T : Txt K mg base) : Okd P w K mg base 1 (a_ordered K) sp_ordered := by
  refine okd (d := d_ordered) T 30 rfl rfl sc_ordered (fun _ _ _ _ _ _ us hl => match us, hl with | [_], _ => rfl) (fun vs H Q E h => ?_) (fun cdv A outer s H vs Q E hr h => ?_)
  · obtain ⟨d, ps, ls, rfl, _⟩ := h; rfl
  obtain ⟨d, ps, ls, rfl, hd, R, lt, q⟩ := h
  have pl : ps.length ≤ 13 := by
    have := (R.perm (tab_rep lt)).length_eq
    have := tab_len ls
    omega
  refine ⟨_, (pss_one (ps_ret (pe_dc (own := [("length", 1)]) rfl sc_ordered.nd (pi_list (pe_callB cr_sorted rfl T.f_sorted (by decide +kernel) (pa_cons (pe_lock (pe_lc (own := [("length", 1)]) rfl sc_ordered.nd (pi_keys (pv 0)) (blkOk_by (N := N_ordered) (sc := defScope s_ordered) (by decide +kernel)) (fun _ _ _ _ _ => (pg_name (i := 1) sc_ordered.nd rfl (Or.inl rfl))) (fun _ _ _ _ _ => pts_nil) (fun _ _ _ _ _ => (pe_callTy call_int1 rfl T.f_int (by decide +kernel) (pa_cons (pv 1) pa_nil))))) pa_nil))) (blkOk_by (N := N_ordered) (sc := defScope s_ordered) (by decide +kernel)) (fun _ _ _ _ _ => (pg_name (i := 1) sc_ordered.nd rfl (Or.inl rfl))) (fun _ _ _ _ _ => pts_nil) (fun _ _ _ _ _ => (pv 1)) (fun _ _ _ _ _ => (pe_dget (hu_of hr) (pv 0) (pv 1) (fun _ _ => rfl)))))), ?_⟩
  refine ⟨d, .dK (dk ps), hd, True.intro, fun od => ?_⟩
  refine ⟨_, rfl, d, od, rfl, .inl ⟨_, upd_same, ?_⟩⟩
  refine lc_li walk_liK (fun H' s => s _ _ upd_same) (by intros; rfl) (fun x => some (nv x)) (by rw [List.length_map]; omega) (fun x H' hx s => Et.yes) (fun x v H' hx e s Q' q' => ?_) fun D H2 s2 hD h2 => ?_
  · cases e
    exact ⟨_, rfl, .inl ⟨_, rfl, q'⟩⟩
  obtain ⟨hD0, nDd⟩ := lock_none hd hD
  refine ⟨s2 _ _ upd_same, D, (ps.map (·.1)).map fun (x : Nat) => (x : Int), rfl, SqL.of ?_, by rw [List.length_map, List.length_map]; omega, fun ns' a perm rising ha => ?_⟩
  · rw [upd_ne nDd, h2, List.map_map, List.filterMap_eq_map', List.map_map, List.map_map]; rfl
  have s3 := lock_back hd s2
  generalize upd H2 d (.dK (dk ps)) = H3 at s3 ha
  obtain ⟨qs, rfl, pq⟩ := nat_of perm
  have rs : qs.Pairwise (· ≤ ·) := by
    rw [List.pairwise_map] at rising
    exact rising.imp fun h => by omega
  have eq := sorted_keys (pq.trans ((R.perm (tab_rep lt)).map (·.1))) rs
  have sa := same_new (o := .lst ((qs.map fun (x : Nat) => (x : Int)).map V.int)) s3 ha
  have la : LiAt (upd H3 a (.lst ((qs.map fun (x : Nat) => (x : Int)).map V.int))) a qs := by rw [LiAt, upd_same, List.map_map]; rfl
  refine ⟨a, rfl, ⟨_, SqL.of upd_same⟩, ?_⟩
  have e1 : qs.filterMap (fun x => (cf ls x).map fun c => (x, nv c)) = iv (tab ls) := by
    have := iv_fm (ps := qs) (F := fun x => (cf ls x).map fun c => (x, c))
    rw [show qs.filterMap (fun x => (cf ls x).map fun c => (x, c)) = tab ls from by rw [eq]; exact arr_of_keys 13 (cf ls)] at this
    rw [← this]
    congr 1
    funext x
    cases cf ls x <;> rfl
  refine dc_li walk_li (fun H' s => SqL.of (s _ _ la)) (by intros; rfl) (fun x => (cf ls x).map fun c => (x, nv c)) (by rw [e1, iv_keys]; exact arr_nodup _ _) (by rw [eq, List.length_map]; exact Nat.le_trans (tab_len ls) (by decide)) (fun x H' hx s Q' q' => ?_) (fun x x' v H' hx e s Q' q' => ?_) (fun x x' v H' hx e s Q' q' => ?_) fun D2 H4 s4 hD2 h4 => ?_
  · have : (cf ls x).isSome = true := by
      rw [eq] at hx
      obtain ⟨⟨b, c⟩, hp, rfl⟩ := List.mem_map.mp hx
      rw [(arr_mem.mp hp).2]; rfl
    rw [Option.isSome_map, this] at q'
    exact q'
  · obtain ⟨c, hc, e2⟩ := Option.map_eq_some_iff.mp e
    cases e2
    exact ⟨_, rfl, q'⟩
  · obtain ⟨c, hc, e2⟩ := Option.map_eq_some_iff.mp e
    cases e2
    exact ⟨_, rfl, _, rfl, d, _, rfl, dgetR (.inl (s _ _ (sa _ _ hd))) R (by rw [hc]; rfl), q'⟩
  · rw [e1] at h4
    exact q D2 H4 (sa.free hD2) (sa.trans s4) h4
def sp_Shape_init (K : PySem.W.Frag) : Sp := fun vs H Q _ => ∃ (p dx d e : Addr) (ps rs : List (Nat × Nat)) (ls ks : List Nat), vs = [.ref p, .ref d, .ref e] ∧ H p = some (.ins (C_Shape K) dx []) ∧ H d = some (.dK (dk ps)) ∧ H e = some (.dK (dk rs)) ∧ Rep ps (cf ls) ∧ Rep rs (cf ks) ∧ Sh ls ks ∧
  ∀ H', (∀ b o, H b = some o → b ≠ p → H' b = some o) → ShAt K H' p ls ks → Q .non H'
theorem counts_pos {ps : List (Nat × Nat)} {ls : List Nat} (R : Rep ps (cf ls)) (lp : ∀ L ∈ ls, 0 < L) : ∀ p ∈ ps, 0 < p.1 ∧ 0 < p.2 := fun p hp => by
  obtain ⟨a, b⟩ := p
  obtain ⟨h1, h2⟩ := cf_some.mp (R.mem.mp hp)
  exact ⟨lp a (List.count_pos_iff.mp (by omega)), by show 0 < b; omega⟩
theorem counts_len {ps : List (Nat × Nat)} {ls : List Nat} (R : Rep ps (cf ls)) (lt : ∀ L ∈ ls, L < 13) : ps.length ≤ 13 := by
  have := (R.perm (tab_rep lt)).length_eq
  have := tab_len ls
  omega
theorem ok_Shape_init (T : Txt K mg base) : Okd P w K mg base 3 (a_Shape_init K) (sp_Shape_init K) := by
  refine okd (d := d_Shape_init) T 31 rfl rfl sc_Shape_init (fun _ _ _ _ _ _ us hl => match us, hl with | [_, _, _], _ => rfl) (fun vs H Q E h => ?_) (fun cdv A outer s H vs Q E hr h => ?_)
  · obtain ⟨p, dx, d, e, ps, rs, ls, ks, rfl, _⟩ := h; rfl
  obtain ⟨p, dx, d, e, ps, rs, ls, ks, rfl, hp, hd, he, R1, R2, sh, q⟩ := h
  obtain ⟨lt1, lt2⟩ := sh.lt
  have npd : d ≠ p := ne_of hd hp (by intro z; cases z)
  have npe : e ≠ p := ne_of he hp (by intro z; cases z)
  refine ⟨_, (pss_cons (ps_if (pt_not (pt_val (pe_cD (ok_are_counts T) (hr.mono (by decide)) T.g_are_counts (pa_cons (pv 1) pa_nil)))) (pss_one ps_never) pss_nil)
      (pss_cons (ps_if (pt_not (pt_val (pe_cD (ok_are_counts T) (hr.mono (by decide)) T.g_are_counts (pa_cons (pv 2) pa_nil)))) (pss_one ps_never) pss_nil)
      (pss_cons (ps_fld (pv 0) (pe_cD (ok_ordered T) (hr.mono (by decide)) T.g_ordered (pa_cons (pv 1) pa_nil)) rfl)
      (pss_one (ps_fld (pv 0) (pe_cD (ok_ordered T) (hr.mono (by decide)) T.g_ordered (pa_cons (pv 2) pa_nil)) rfl))))), ?_⟩
  refine ⟨_, rfl, d, ps, rfl, hd, counts_pos R1 sh.lp, by have := counts_len R1 lt1; omega, fun H1 s1 => ⟨true, rfl, iteF ?_⟩⟩
  refine ⟨_, rfl, e, rs, rfl, s1 _ _ he, counts_pos R2 sh.kp, by have := counts_len R2 lt2; omega, fun H2 s2 => ⟨true, rfl, iteF ?_⟩⟩
  have s2' := s1.trans s2
  refine ⟨_, rfl, d, ps, ls, rfl, s2' _ _ hd, R1, lt1, fun a H3 ha s3 h3 => ?_⟩
  have s3' := s2'.trans s3
  refine ⟨_, rfl, p, _, dx, [], rfl, s3' _ _ hp, T.cl_Shape, T.n_Shape_own_cycles, (by show 0 < 1000; decide), ?_⟩
  have nap : a ≠ p := ne_of h3 (s3' _ _ hp) (by intro z; cases z)
  refine ⟨_, rfl, e, rs, ks, rfl, by rw [upd_ne npe]; exact s3' _ _ he, R2, lt2, fun b H4 hb s4 h4 => ?_⟩
  have hp4 := s4 _ _ (upd_same (a := p))
  refine ⟨_, rfl, p, _, dx, _, rfl, hp4, T.cl_Shape, T.n_Shape_own_chains, (by show 1 < 1000; decide), ?_⟩
  have nbp : b ≠ p := ne_of h4 hp4 (by intro z; cases z)
  refine q _ (fun c o ec hc => ?_) ⟨⟨dx, a, b, upd_same, ?_, by rw [upd_ne nbp]; exact h4⟩, sh⟩
  · rw [upd_ne hc]
    exact s4 _ _ (by rw [upd_ne hc]; exact s3' _ _ ec)
  · rw [upd_ne nap]
    exact s4 _ _ (by rw [upd_ne nap]; exact h3)
def sp_Shape_cycles (K : PySem.W.Frag) : Sp := fun vs H Q _ => ∃ p ls ks, vs = [.ref p] ∧ ShAt K H p ls ks ∧ ∀ d, H d = none → Q (.ref d) (upd H d (.dK (dk (tab ls))))
theorem ok_Shape_cycles (T : Txt K mg base) : Okd P w K mg base 1 (a_Shape_cycles K) (sp_Shape_cycles K) := by
  refine okd (d := d_Shape_cycles) T 32 rfl rfl sc_Shape_cycles (fun _ _ _ _ _ _ us hl => match us, hl with | [_], _ => rfl) (fun vs H Q E h => ?_) (fun cdv A outer s H vs Q E hr h => ?_)
  · obtain ⟨p, ls, ks, rfl, _⟩ := h; rfl
  obtain ⟨p, ls, ks, rfl, m, q⟩ := h
  obtain ⟨dx, d, e, h1, h2, h3⟩ := m.ob
  exact ⟨_, (pss_one (ps_ret (pe_callTy call_dictD rfl T.f_dict (by decide +kernel) (pa_cons (pe_fld (pv 0) rfl) pa_nil)))), _, rfl, p, _, dx, _, _, rfl, h1, T.cl_Shape, T.n_Shape_own_cycles, fS_cycles _ _, _, _, rfl, .inl h2, q⟩
def sp_Shape_chains (K : PySem.W.Frag) : Sp := fun vs H Q _ => ∃ p ls ks, vs = [.ref p] ∧ ShAt K H p ls ks ∧ ∀ d, H d = none → Q (.ref d) (upd H d (.dK (dk (tab ks))))
theorem ok_Shape_chains (T : Txt K mg base) : Okd P w K mg base 1 (a_Shape_chains K) (sp_Shape_chains K) := by
  refine okd (d := d_Shape_chains) T 33 rfl rfl sc_Shape_chains (fun _ _ _ _ _ _ us hl => match us, hl with | [_], _ => rfl) (fun vs H Q E h => ?_) (fun cdv A outer s H vs Q E hr h => ?_)
  · obtain ⟨p, ls, ks, rfl, _⟩ := h; rfl
  obtain ⟨p, ls, ks, rfl, m, q⟩ := h
  obtain ⟨dx, d, e, h1, h2, h3⟩ := m.ob
  exact ⟨_, (pss_one (ps_ret (pe_callTy call_dictD rfl T.f_dict (by decide +kernel) (pa_cons (pe_fld (pv 0) rfl) pa_nil)))), _, rfl, p, _, dx, _, _, rfl, h1, T.cl_Shape, T.n_Shape_own_chains, fS_chains _ _, _, _, rfl, .inl h3, q⟩
def shEq (ls ks ls' ks' : List Nat) : Bool := eqF 13 (cf ls) (cf ls') && eqF 13 (cf ks) (cf ks')
def sp_Shape_eq (K : PySem.W.Frag) : Sp := fun vs H Q _ => ∃ p r ls ks ls' ks', vs = [.ref p, .ref r] ∧ ShAt K H p ls ks ∧ ShAt K H r ls' ks' ∧ Q (.bl (shEq ls ks ls' ks')) H
theorem tab_hit {ls ls' : List Nat} (lt : ∀ L ∈ ls', L < 13) : ((dk (tab ls)).length == (dk (tab ls')).length && hitD (dk (tab ls')) (dk (tab ls))) = eqF 13 (cf ls) (cf ls') := by
  rw [hit_dk, dk_length, dk_length, eqF]
  congr 1
  refine congrArg _ (funext fun p => ?_)
  rw [(tab_rep lt).lk]
theorem ok_Shape_eq (T : Txt K mg base) : Okd P w K mg base 1 (a_Shape_eq K) (sp_Shape_eq K) := by
  refine okd (d := d_Shape_eq) T 34 rfl rfl sc_Shape_eq (fun _ _ _ _ _ _ us hl => match us, hl with | [_, _], _ => rfl) (fun vs H Q E h => ?_) (fun cdv A outer s H vs Q E hr h => ?_)
  · obtain ⟨p, r, ls, ks, ls', ks', rfl, _⟩ := h; rfl
  obtain ⟨p, r, ls, ks, ls', ks', rfl, m, m', q⟩ := h
  obtain ⟨dx, d, e, h1, h2, h3⟩ := m.ob
  obtain ⟨dx', d', e', h1', h2', h3'⟩ := m'.ob
  refine ⟨_, (pss_cons (ps_if (pt_not (pt_val (pe_callB call_isi rfl T.f_isinstance (by decide +kernel) (pa_cons (pv 1) (pa_cons (pe_glob (v := .ref (C_Shape K)) rfl T.g_Shape rfl) pa_nil))))) (pss_one (ps_ret pe_bl)) pss_nil)
      (pss_one (ps_ret (pe_and (pe_cmpR (op_eq_dictB hr.units0) (pe_fld (pv 0) rfl) (pe_fld (pv 1) rfl) (nomark _)) (pe_one (pe_cmpR (op_eq_dictB hr.units0) (pe_fld (pv 0) rfl) (pe_fld (pv 1) rfl) (nomark _))))))), ?_⟩
  refine ⟨_, rfl, _, .ref (C_Shape K), .ref (C_Shape K), .ref (C_Shape K), true, rfl, .own _, .base (T.ty_Shape h1'), by unfold PySem.W.kitOne; simp, true, rfl, iteF ?_⟩
  refine ⟨_, rfl, p, _, dx, _, _, rfl, h1, T.cl_Shape, T.n_Shape_own_cycles, fS_cycles _ _, _, rfl, r, _, dx', _, _, rfl, h1', T.cl_Shape, T.n_Shape_own_cycles, fS_cycles _ _, d, d', _, _, rfl, rfl, h2, h2', flat_dk _, flat_dk _, _, rfl, ?_⟩
  rw [tab_hit m'.sh.lt.1]
  unfold shEq at q
  cases eb : eqF 13 (cf ls) (cf ls') with
  | false =>
    rw [eb] at q
    exact iteF q
  | true =>
    rw [eb] at q
    refine iteT ⟨_, rfl, p, _, dx, _, _, rfl, h1, T.cl_Shape, T.n_Shape_own_chains, fS_chains _ _, _, rfl, r, _, dx', _, _, rfl, h1', T.cl_Shape, T.n_Shape_own_chains, fS_chains _ _, e, e', _, _, rfl, rfl, h3, h3', flat_dk _, flat_dk _, ?_⟩
    rw [tab_hit m'.sh.lt.2]
    exact q
theorem get0 (ls : List Nat) (L : Nat) : ((cf ls L).map nv).getD (V.int 0) = V.int ((ls.count L : Nat) : Int) := by
  rw [← count_getD]
  cases cf ls L <;> rfl
def sp_counts_of : Sp := fun vs H Q _ => ∃ (a : Addr) (xss : List (List Nat)), vs = [.ref a] ∧ RowsAt H a xss ∧ xss.length ≤ 100 ∧ ∀ d H' ps, H d = none → Same H H' → H' d = some (.dK (dk ps)) → Rep ps (cf (xss.map List.length)) → Q (.ref d) H'
theorem ok_counts_of (T : Txt K mg base) : Okd P w K mg base 1 (a_counts_of K) sp_counts_of := by
  refine okd (d := d_counts_of) T 35 rfl rfl sc_counts_of (fun _ _ _ _ _ _ us hl => match us, hl with | [_], _ => rfl) (fun vs H Q E h => ?_) (fun cdv A outer s H vs Q E hr h => ?_)
  · obtain ⟨a, xss, rfl, _⟩ := h; rfl
  obtain ⟨a, xss, rfl, ⟨qs, rfl, ha, hq⟩, len, q⟩ := h
  refine ⟨_, (pss_cons (ps_set (i := 1) sc_counts_of.nd rfl (Or.inl rfl) pe_dnewK)
      (pss_cons (ps_for PassesOwn.never rfl (pi_list (pv 0)) (pg_name (i := 2) sc_counts_of.nd rfl (Or.inl rfl))
      (pss_one (ps_dput (hu_of hr) (pv 1) (pe_callB call_len_seq rfl T.f_len (by decide +kernel) (pa_cons (pv 2) pa_nil)) (pe_op op_add (pe_dget2 (hu_of hr) (pv 1) (pe_callB call_len_seq rfl T.f_len (by decide +kernel) (pa_cons (pv 2) pa_nil)) pe_int ⟨rfl, rfl, rfl, rfl⟩) pe_int) rfl)))
      (pss_one (ps_ret (pv 1))))), ?_⟩
  intro d hd
  have s0 := same_new (o := .dK []) (Same.refl H) hd
  have ha0 := s0 _ _ ha
  refine ⟨_, rfl, a, rfl, ⟨_, SqL.of ha0⟩, ?_⟩
  have w := walk_list (K := K) (a := a) (xs := qs.map fun q => V.ref q.1)
  rw [List.length_map] at w len
  rw [List.map_map] at q
  refine for_it w (fun i σ H' => ∃ o ps, σ = [some (.ref a), some (.ref d), o] ∧ Same H H' ∧ H' d = some (.dK (dk ps)) ∧ Rep ps (cf ((qs.take i).map (List.length ∘ (·.2)))))
    ⟨none, [], rfl, s0, upd_same, cf_nil⟩ (fun i σ H' _ ⟨_, _, _, s, _⟩ => SqL.of (s _ _ ha)) ?_ ?_
  · rintro i v σ H' H'' hi ⟨o, ps, rfl, s, h, R⟩ ⟨rfl, ev⟩
    have e := List.getElem?_eq_getElem hi
    rw [List.getElem?_map, e] at ev
    cases ev
    have hl := s _ _ (hq _ (List.getElem_mem hi))
    generalize qs[i] = rw' at *
    obtain ⟨r, xs⟩ := rw'
    have hl : H'' r = some (.lst (li xs)) := hl
    have e1 : (qs.take (i + 1)).map (List.length ∘ (·.2)) = (qs.take i).map (List.length ∘ (·.2)) ++ [xs.length] := take_succ_map _ e
    have lk1 := R.lk xs.length
    have pl : ps.length ≤ 101 := by
      have h1 : ps.length ≤ (qs.take i).length := by
        have h2 : (ps.map (·.1)).length ≤ ((qs.take i).map (List.length ∘ (·.2))).length := by
          refine nodup_sub R.nd fun L hL => ?_
          obtain ⟨⟨b, c⟩, hp, rfl⟩ := List.mem_map.mp hL
          obtain ⟨h4, h5⟩ := cf_some.mp (R.mem.mp hp)
          show b ∈ _
          exact List.count_pos_iff.mp (by omega)
        rwa [List.length_map, List.length_map] at h2
      have := List.length_take_le i qs
      have h3 : (qs.take i).length ≤ qs.length := by rw [List.length_take]; omega
      omega
    refine ⟨_, rfl, d, rfl, .inl ⟨_, .inl h⟩, _, rfl, r, _, rfl, .inl (SqL.of hl), _, dgetR (x := (li xs).length) (.inl h) R rfl, ((((qs.take i).map (List.length ∘ (·.2))).count (li xs).length : Nat) : Int), 1, get0 _ _, rfl, _, rfl, _, rfl, r, _, rfl, .inl (SqL.of hl), d, _, rfl, DPut.k (k := nk (li xs).length) h (by rw [dk_length]; exact small12 (by omega)), ?_⟩
    · rw [li_length]
      refine ⟨_, ptb ps xs.length (((qs.take i).map (List.length ∘ (·.2))).count xs.length + 1), rfl, same_at s hd, ?_, ?_⟩
      · rw [upd_same]
        show some (HO.dK (putK (dk ps) (nk xs.length) (V.int _))) = _
        rw [← put_dk]; rfl
      · rw [e1]; exact cf_step R xs.length
  · rintro σ H' ⟨o, ps, rfl, s, h, R⟩
    rw [List.take_length] at R
    exact ⟨_, rfl, q d H' ps hd s h R⟩
end
end K35
end

section
set_option Elab.async false
set_option linter.all false
set_option maxRecDepth 100000
set_option maxHeartbeats 4000000
/-! W7: shapes of maps, renamings. -/
namespace K35
open PySem PySem.Spec PyProof.Rows L2 CM
/-- a new shape -/
theorem mk_shape {K : PySem.W.Frag} {H1 : Hp} {d e : Addr} {ps rs : List (Nat × Nat)} {ls ks : List Nat} {Q : VK} {E : XK} (hd : H1 d = some (.dK (dk ps))) (he : H1 e = some (.dK (dk rs))) (R1 : Rep ps (cf ls)) (R2 : Rep rs (cf ks)) (sh : Sh ls ks) (q : ∀ x H2, H1 x = none → Same H1 H2 → ShAt K H2 x ls ks → Q (.ref x) H2) :
    ∀ x dx, H1 x = none → H1 dx = none → dx ≠ x → sp_Shape_init K [.ref x, .ref d, .ref e] (upd (upd H1 dx (.own x)) x (.ins (C_Shape K) dx [])) (fun v H2 => v = .non ∧ Q (.ref x) H2) E := fun x dx nx ndx nxx => by
  refine ⟨x, dx, d, e, ps, rs, ls, ks, rfl, upd_same, ?_, ?_, R1, R2, sh, fun H' s m => ⟨rfl, q x H' nx (fun b o eb => ?_) m⟩⟩
  · rw [upd_ne (ne_of_none hd nx), upd_ne (ne_of_none hd ndx)]; exact hd
  · rw [upd_ne (ne_of_none he nx), upd_ne (ne_of_none he ndx)]; exact he
  · have nb := ne_of_none eb nx
    exact s b o (by rw [upd_ne nb, upd_ne (ne_of_none eb ndx)]; exact eb) nb
abbrev lc (n : Nat) (f : PF) : List Nat := (cys n f).map List.length
abbrev lh (n : Nat) (f : PF) : List Nat := (chs n f).map List.length
theorem cys_few {n : Nat} {f : PF} (h : PI n f) : (cys n f).length ≤ n ∧ (chs n f).length ≤ n := by
  have s := parts_sum h
  have h1 := length_le_sum (cys_pos h)
  have h2 := length_le_sum (chs_pos h)
  rw [List.length_map] at h1 h2
  omega
section
variable {P : Program} {w : World} {K : PySem.W.Frag} {mg : Str → Option Value} {base : Heap}
def sp_shape_of (K : PySem.W.Frag) : Sp := fun vs H Q _ => ∃ p n f, vs = [.ref p] ∧ MapAt K H p n f ∧ ∀ x H', H x = none → Same H H' → ShAt K H' x (lc n f) (lh n f) → Q (.ref x) H'
theorem ok_shape_of (T : Txt K mg base) : Okd P w K mg base 5 (a_shape_of K) (sp_shape_of K) := by
  refine okd (d := d_shape_of) T 36 rfl rfl sc_shape_of (fun _ _ _ _ _ _ us hl => match us, hl with | [_], _ => rfl) (fun vs H Q E h => ?_) (fun cdv A outer s H vs Q E hr h => ?_)
  · obtain ⟨p, n, f, rfl, _⟩ := h; rfl
  obtain ⟨p, n, f, rfl, m, q⟩ := h
  have n2 := m.n2
  obtain ⟨c1, c2⟩ := cys_few m.pi
  refine ⟨_, (pss_cons (ps_expr (pe_cD (ok_check_map T) (hr.mono (by decide)) T.g_check_map (pa_cons (pv 0) pa_nil)))
      (pss_cons (ps_asg (pe_cD (ok_parts_of T) (hr.mono (by decide)) T.g_parts_of (pa_cons (pv 0) pa_nil)) (pg_tup rfl (pgs_cons (pg_name (i := 1) sc_shape_of.nd rfl (Or.inl rfl)) (pgs_cons (pg_name (i := 2) sc_shape_of.nd rfl (Or.inl rfl)) pgs_nil))))
      (pss_one (ps_ret (pe_mkD (ok_Shape_init T) T.mk_Shape (hr.mono (by decide)) T.g_Shape (pa_cons (pe_cD (ok_counts_of T) (hr.mono (by decide)) T.g_counts_of (pa_cons (pv 1) pa_nil)) (pa_cons (pe_cD (ok_counts_of T) (hr.mono (by decide)) T.g_counts_of (pa_cons (pv 2) pa_nil)) pa_nil))))))), ?_⟩
  refine ⟨_, rfl, p, n, f, rfl, m, ?_⟩
  refine ⟨_, rfl, p, n, f, rfl, m, fun t ac ah H1 s1 ht rc rh => ?_⟩
  refine ⟨t, _, rfl, SqT.of ht, rfl, _, _, rfl, _, _, rfl, rfl, ?_⟩
  refine ⟨_, rfl, ac, _, rfl, rc, by omega, fun d H2 ps hd s2 h2 R1 => ?_⟩
  refine ⟨_, rfl, ah, _, rfl, rh.same s2, by omega, fun e H3 rs he s3 h3 R2 => ?_⟩
  exact mk_shape (s3 _ _ h2) h3 R1 R2 (Sh.of m.pi n2) fun x H4 hx s4 sh => q x H4 (s1.free (s2.free (s3.free hx))) (s1.trans (s2.trans (s3.trans s4))) sh
def sp_are_alike (K : PySem.W.Frag) : Sp := fun vs H Q _ => ∃ p r n f g, vs = [.ref p, .ref r] ∧ MapAt K H p n f ∧ MapAt K H r n g ∧ ∀ H', Same H H' → Q (.bl (shEq (lc n f) (lh n f) (lc n g) (lh n g))) H'
theorem ok_are_alike (T : Txt K mg base) : Okd P w K mg base 6 (a_are_alike K) (sp_are_alike K) := by
  refine okd (d := d_are_alike) T 37 rfl rfl sc_are_alike (fun _ _ _ _ _ _ us hl => match us, hl with | [_, _], _ => rfl) (fun vs H Q E h => ?_) (fun cdv A outer s H vs Q E hr h => ?_)
  · obtain ⟨p, r, n, f, g, rfl, _⟩ := h; rfl
  obtain ⟨p, r, n, f, g, rfl, m, m', q⟩ := h
  obtain ⟨dx, d, h1, h2⟩ := m.ob
  obtain ⟨dx', d', h1', h2'⟩ := m'.ob
  refine ⟨_, (pss_cons (ps_expr (pe_cD (ok_check_map T) (hr.mono (by decide)) T.g_check_map (pa_cons (pv 0) pa_nil)))
      (pss_cons (ps_expr (pe_cD (ok_check_map T) (hr.mono (by decide)) T.g_check_map (pa_cons (pv 1) pa_nil)))
      (pss_one (ps_ret (pe_and (pe_cmpR op_eq (pe_prD (ok_Map_size T) (hr.mono (by decide)) T.cl_Map T.p_Map_size (pv 0)) (pe_prD (ok_Map_size T) (hr.mono (by decide)) T.cl_Map T.p_Map_size (pv 1)) (nomark _)) (pe_one (pe_cmpR (cmp_oD (ok_Shape_eq T) (hr.mono (by decide)) T.m_Shape_eq) (pe_cD (ok_shape_of T) (hr.mono (by decide)) T.g_shape_of (pa_cons (pv 0) pa_nil)) (pe_cD (ok_shape_of T) (hr.mono (by decide)) T.g_shape_of (pa_cons (pv 1) pa_nil)) (nomark _)))))))), ?_⟩
  refine ⟨_, rfl, p, n, f, rfl, m, _, rfl, r, n, g, rfl, m', ?_⟩
  refine ⟨_, rfl, p, dx, _, rfl, h1, p, n, f, rfl, m, _, rfl, r, dx', _, rfl, h1', r, n, g, rfl, m', rfl, true, by rw [decide_eq_true rfl], iteT ?_⟩
  refine ⟨_, rfl, p, n, f, rfl, m, fun x H1 hx s1 sh1 => ?_⟩
  refine ⟨_, rfl, r, n, g, rfl, m'.same s1, fun y H2 hy s2 sh2 => ?_⟩
  have sh1' := sh1.same s2
  obtain ⟨dx1, d1, e1, k1, _⟩ := sh1'.ob
  obtain ⟨dx2, d2, e2, k2, _⟩ := sh2.ob
  exact ⟨x, y, dx1, dx2, _, _, rfl, rfl, k1, k2, x, y, _, _, _, _, rfl, sh1', sh2, q H2 (s1.trans s2)⟩
/-- rows by their lengths -/
def sp_by_length : Sp := fun vs H Q _ => ∃ (a : Addr) (xss : List (List Nat)), vs = [.ref a] ∧ RowsAt H a xss ∧ xss.length < 64 ∧ ∀ l H' yss, H l = none → Same H H' → RowsAt H' l yss → yss.Perm xss → yss.Pairwise (fun x y => x.length ≤ y.length) → Q (.ref l) H'
/-- what stands in a list of numbers -/
def ctL (H : Hp) (p : Addr) : List Nat := match H p with
  | some (.lst xs) => xs.map fun v => match v with
    | .int i => i.toNat
    | _ => 0
  | _ => []
theorem ctL_at {H : Hp} {p : Addr} {xs : List Nat} (h : LiAt H p xs) : ctL H p = xs := by
  unfold ctL
  rw [h]
  show (li xs).map _ = xs
  rw [li, List.map_map]
  exact (List.map_congr_left fun x _ => Int.toNat_natCast x).trans (List.map_id xs)
theorem ok_by_length (T : Txt K mg base) : Okd P w K mg base 1 (a_by_length K) sp_by_length := by
  refine okd (d := d_by_length) T 38 rfl rfl sc_by_length (fun _ _ _ _ _ _ us hl => match us, hl with | [_], _ => rfl) (fun vs H Q E h => ?_) (fun cdv A outer s H vs Q E hr h => ?_)
  · obtain ⟨a, xss, rfl, _⟩ := h; rfl
  obtain ⟨a, xss, rfl, ⟨qs, rfl, ha, hq⟩, len, q⟩ := h
  rw [List.length_map] at len
  refine ⟨_, (pss_one (ps_ret (pe_sortLen rfl T.f_sorted rfl T.f_len (pv 0)))), ?_⟩
  have em : qs.map (fun q => V.ref q.1) = (qs.map (·.1)).map V.ref := by rw [List.map_map]; rfl
  refine ⟨_, rfl, a, qs.map (·.1), fun p => (ctL H p).length, rfl, SqL.of (by rw [ha, em]), fun p hp => ?_, by rw [List.length_map]; exact len, fun rs D perm pw hD => ?_⟩
  · obtain ⟨r, hr, rfl⟩ := List.mem_map.mp hp
    exact ⟨_, hq r hr, by show (li r.2).length = (ctL H r.1).length; rw [ctL_at (hq r hr), li_length]⟩
  have sD := same_new (o := .lst (rs.map V.ref)) (Same.refl H) hD
  refine q D _ ((rs.map fun p => (p, ctL H p)).map (·.2)) hD sD ⟨rs.map fun p => (p, ctL H p), rfl, ?_, fun r hr => ?_⟩ ?_ ?_
  · rw [upd_same, List.map_map]; rfl
  · obtain ⟨p, hp, rfl⟩ := List.mem_map.mp hr
    obtain ⟨r0, hr0, rfl⟩ := List.mem_map.mp (perm.mem_iff.mp hp)
    show LiAt _ r0.1 (ctL H r0.1)
    rw [ctL_at (hq r0 hr0)]
    exact sD _ _ (hq r0 hr0)
  · rw [List.map_map]
    have p2 := perm.map (ctL H)
    have e2 : (qs.map (·.1)).map (ctL H) = qs.map (·.2) := by
      rw [List.map_map]
      exact List.map_congr_left fun r hr => ctL_at (hq r hr)
    rw [e2] at p2
    exact p2
  · rw [List.pairwise_map, List.pairwise_map]
    exact pw
/-- how many renamings leave a shape -/
def csym (ls ks : List Nat) : Nat := (tab ks).foldl (fun a p => a * fac p.2) ((tab ls).foldl (fun a p => a * (p.1 ^ p.2 * fac p.2)) 1)
theorem small_sym : ∀ L, L ≤ 12 → ∀ c, c ≤ 12 → L * c ≤ 12 → L ^ c * fac c < 2 ^ 63 := by decide +kernel
theorem small_fac : ∀ c, c ≤ 12 → fac c < 2 ^ 63 := by decide +kernel
theorem tab_small {ls : List Nat} (lp : ∀ L ∈ ls, 0 < L) (hs : ls.sum ≤ 12) {L c : Nat} (h : (L, c) ∈ tab ls) : L ≤ 12 ∧ c ≤ 12 ∧ L * c ≤ 12 ∧ 0 < L ∧ 0 < c := by
  obtain ⟨h1, h2, h3⟩ := tab_mem h
  have h4 := mul_count_le L ls
  rw [← h1] at h4
  have h5 := mem_le_sum h3
  have h6 : c ≤ ls.length := by rw [h1]; exact List.count_le_length
  have h7 := length_le_sum lp
  exact ⟨by omega, by omega, by omega, lp L h3, by omega⟩
def sp_count_symmetries (K : PySem.W.Frag) : Sp := fun vs H Q _ => ∃ p ls ks, vs = [.ref p] ∧ ShAt K H p ls ks ∧ ∀ H', Same H H' → Q (nv (csym ls ks)) H'
theorem ok_count_symmetries (T : Txt K mg base) : Okd P w K mg base 3 (a_count_symmetries K) (sp_count_symmetries K) := by
  refine okd (d := d_count_symmetries) T 39 rfl rfl sc_count_symmetries (fun _ _ _ _ _ _ us hl => match us, hl with | [_], _ => rfl) (fun vs H Q E h => ?_) (fun cdv A outer s H vs Q E hr h => ?_)
  · obtain ⟨p, ls, ks, rfl, _⟩ := h; rfl
  obtain ⟨p, ls, ks, rfl, m, q⟩ := h
  have sm := m.sh.sum
  obtain ⟨dx, d, e, h1, h2, h3⟩ := m.ob
  refine ⟨_, (pss_cons (ps_set (i := 1) sc_count_symmetries.nd rfl (Or.inl rfl) pe_int)
      (pss_cons (ps_for PassesOwn.never rfl (pi_items (pe_lk (pe_prD (ok_Shape_cycles T) (hr.mono (by decide)) T.cl_Shape T.p_Shape_cycles (pv 0)))) (pg_tup rfl (pgs_cons (pg_name (i := 2) sc_count_symmetries.nd rfl (Or.inl rfl)) (pgs_cons (pg_name (i := 3) sc_count_symmetries.nd rfl (Or.inl rfl)) pgs_nil)))
      (pss_one (ps_aug (i := 1) sc_count_symmetries.nd rfl (Or.inl rfl) (pe_op op_mul (pe_cD (ok_power_of T) (hr.mono (by decide)) T.g_power_of (pa_cons (pv 2) (pa_cons (pv 3) pa_nil))) (pe_cD (ok_factorial T) (hr.mono (by decide)) T.g_factorial (pa_cons (pv 3) pa_nil))) iop_mul)))
      (pss_cons (ps_for PassesOwn.never rfl (pi_values (pe_lk (pe_prD (ok_Shape_chains T) (hr.mono (by decide)) T.cl_Shape T.p_Shape_chains (pv 0)))) (pg_name (i := 3) sc_count_symmetries.nd rfl (Or.inl rfl))
      (pss_one (ps_aug (i := 1) sc_count_symmetries.nd rfl (Or.inl rfl) (pe_cD (ok_factorial T) (hr.mono (by decide)) T.g_factorial (pa_cons (pv 3) pa_nil)) iop_mul)))
      (pss_one (ps_ret (pv 1)))))), ?_⟩
  refine ⟨_, rfl, p, dx, _, rfl, h1, p, ls, ks, rfl, m, fun d1 hd1 => ⟨d1, _, rfl, upd_same, True.intro, fun od => ?_⟩⟩
  refine ⟨d1, od, _, rfl, upd_same, ?_⟩
  have s0 : Same H (upd (upd H d1 (.dK (dk (tab ls)))) d1 (.frz od (.dK (dk (tab ls))))) := fun b o eb => by
    have nb := ne_of_none eb hd1
    rw [upd_ne nb, upd_ne nb]; exact eb
  have l0 : (upd (upd H d1 (.dK (dk (tab ls)))) d1 (.frz od (.dK (dk (tab ls))))) d1 = some (.frz od (.dK (dk (tab ls)))) := upd_same
  generalize (upd (upd H d1 (.dK (dk (tab ls)))) d1 (.frz od (.dK (dk (tab ls))))) = H0 at s0 l0
  refine for_it walk_dk (fun i σ H' => ∃ o2 o3, σ = [some (.ref p), some (nv (((tab ls).take i).foldl (fun a p => a * (p.1 ^ p.2 * fac p.2)) 1)), o2, o3] ∧ Same H0 H')
    ⟨none, none, rfl, Same.refl _⟩ (fun i σ H' _ ⟨_, _, _, s⟩ => s _ _ l0) ?_ ?_
  · rintro i v σ H' H'' hi ⟨o2, o3, rfl, s⟩ ⟨U, L, c, rfl, hU, rfl, e⟩
    obtain ⟨b1, b2, b3, b4, b5⟩ := tab_small m.sh.lp (by omega) (List.mem_of_getElem? e)
    have f1 := small_fac c b2
    have f2 := small_sym L b1 c b2 b3
    refine ⟨U, _, rfl, SqT.of upd_same, rfl, _, _, rfl, _, _, rfl, rfl, ?_⟩
    refine ⟨_, rfl, _, rfl, _, rfl, L, c, rfl, by omega, by omega, _, rfl, c, rfl, by omega, _, _, rfl, rfl, .inr ⟨by omega, by omega⟩, _, _, rfl, rfl, .inr ⟨?_, ?_⟩, some (nv L), some (nv c), ?_, same_new s hU⟩
    · rw [← Int.natCast_mul]; omega
    · rw [← Int.natCast_mul]; omega
    · rw [List.take_succ, e, List.foldl_append]
      show [some (V.ref p), some (V.int _), some (nv L), some (nv c)] = [some (V.ref p), some (V.int (((_ * (L ^ c * fac c) : Nat)) : Int)), some (nv L), some (nv c)]
      rw [Int.natCast_mul, Int.natCast_mul]
  · rintro σ H1 ⟨o2, o3, rfl, s1⟩
    rw [List.take_length]
    have s1' := s0.trans s1
    have m1 := m.same s1'
    refine ⟨_, rfl, p, dx, _, rfl, s1' _ _ h1, p, ls, ks, rfl, m1, fun d2 hd2 => ⟨d2, _, rfl, upd_same, True.intro, fun od2 => ?_⟩⟩
    refine ⟨d2, od2, _, rfl, upd_same, ?_⟩
    have s2 : Same H1 (upd (upd H1 d2 (.dK (dk (tab ks)))) d2 (.frz od2 (.dK (dk (tab ks))))) := fun b o eb => by
      have nb := ne_of_none eb hd2
      rw [upd_ne nb, upd_ne nb]; exact eb
    have l2 : (upd (upd H1 d2 (.dK (dk (tab ks)))) d2 (.frz od2 (.dK (dk (tab ks))))) d2 = some (.frz od2 (.dK (dk (tab ks)))) := upd_same
    generalize (upd (upd H1 d2 (.dK (dk (tab ks)))) d2 (.frz od2 (.dK (dk (tab ks))))) = H2 at s2 l2
    have w := walk_liV (d := d2) (o := od2) (ps := tab ks)
    rw [List.length_map] at w
    refine for_it w (fun i σ H' => ∃ o3, σ = [some (.ref p), some (nv (((tab ks).take i).foldl (fun a p => a * fac p.2) ((tab ls).foldl (fun a p => a * (p.1 ^ p.2 * fac p.2)) 1))), o2, o3] ∧ Same H2 H')
      ⟨o3, rfl, Same.refl _⟩ (fun i σ H' _ ⟨_, _, s⟩ => s _ _ l2) ?_ ?_
    · rintro i v σ H' H'' hi ⟨o3, rfl, s⟩ ⟨rfl, ev⟩
      have e := List.getElem?_eq_getElem hi
      have em := List.getElem_mem hi
      rw [li_get (show ((tab ks).map (·.2))[i]? = some (tab ks)[i].2 by rw [List.getElem?_map, e]; rfl)] at ev
      cases ev
      generalize (tab ks)[i] = pr at *
      obtain ⟨L, c⟩ := pr
      obtain ⟨b1, b2, b3, b4, b5⟩ := tab_small m.sh.kp (by omega) em
      have f1 := small_fac c b2
      refine ⟨_, rfl, _, rfl, c, rfl, by omega, _, _, rfl, rfl, .inr ⟨by omega, by omega⟩, some (nv c), ?_, s⟩
      rw [List.take_succ, e, List.foldl_append]
      show [some (V.ref p), some (V.int _), o2, some (nv c)] = [some (V.ref p), some (V.int (((_ * fac c : Nat)) : Int)), o2, some (nv c)]
      rw [Int.natCast_mul]
    · rintro σ H3 ⟨o3, rfl, s3⟩
      rw [List.take_length]
      exact ⟨_, rfl, q H3 (s1'.trans (s2.trans s3))⟩
def sp_is_renaming (K : PySem.W.Frag) : Sp := fun vs H Q _ => ∃ p r t n f g b, vs = [.ref p, .ref r, .ref t] ∧ MapAt K H p n f ∧ MapAt K H r n g ∧ MapAt K H t n b ∧ (arr n b).length = n ∧ ∀ H', Same H H' → Q (.bl (eqF n (rnF n b f) g)) H'
theorem ok_is_renaming (T : Txt K mg base) : Okd P w K mg base 7 (a_is_renaming K) (sp_is_renaming K) := by
  refine okd (d := d_is_renaming) T 40 rfl rfl sc_is_renaming (fun _ _ _ _ _ _ us hl => match us, hl with | [_, _, _], _ => rfl) (fun vs H Q E h => ?_) (fun cdv A outer s H vs Q E hr h => ?_)
  · obtain ⟨p, r, t, n, f, g, b, rfl, _⟩ := h; rfl
  obtain ⟨p, r, t, n, f, g, b, rfl, m, m', mb, full, q⟩ := h
  obtain ⟨dx, d, h1, h2⟩ := m.ob
  obtain ⟨dx', d', h1', h2'⟩ := m'.ob
  obtain ⟨dx'', d'', h1'', h2''⟩ := mb.ob
  have n2 := m.n2
  refine ⟨_, (pss_cons (ps_expr (pe_cD (ok_check_map T) (hr.mono (by decide)) T.g_check_map (pa_cons (pv 0) pa_nil)))
      (pss_cons (ps_expr (pe_cD (ok_check_map T) (hr.mono (by decide)) T.g_check_map (pa_cons (pv 1) pa_nil)))
      (pss_cons (ps_if (PW.pt (pw_or (pt_not (pt_val (pe_callB call_isi rfl T.f_isinstance (by decide +kernel) (pa_cons (pv 2) (pa_cons (pe_glob (v := .ref (C_Map K)) rfl T.g_Map rfl) pa_nil))))) (pw_or (pt_cmpR op_ne (pe_prD (ok_Map_size T) (hr.mono (by decide)) T.cl_Map T.p_Map_size (pv 0)) (pe_prD (ok_Map_size T) (hr.mono (by decide)) T.cl_Map T.p_Map_size (pv 1)) (nomark _)) (pw_or (pt_cmpR op_ne (pe_prD (ok_Map_size T) (hr.mono (by decide)) T.cl_Map T.p_Map_size (pv 2)) (pe_prD (ok_Map_size T) (hr.mono (by decide)) T.cl_Map T.p_Map_size (pv 0)) (nomark _)) (pw_or1 (pt_cmpR op_lt (pe_callB (len_oD (ok_Map_len T) (hr.mono (by decide)) T.m_Map_len) rfl T.f_len (by decide +kernel) (pa_cons (pv 2) pa_nil)) (pe_prD (ok_Map_size T) (hr.mono (by decide)) T.cl_Map T.p_Map_size (pv 2)) (nomark _))))))) (pss_one (ps_ret pe_bl)) pss_nil)
      (pss_one (ps_ret (pe_cmpR (cmp_oD (ok_Map_eq T) (hr.mono (by decide)) T.m_Map_eq) (pe_op (op_oD (ok_Map_mul T) (hr.mono (by decide)) (T.c.ex 7) T.m_Map_mul) (pe_op (op_oD (ok_Map_mul T) (hr.mono (by decide)) (T.c.ex 7) T.m_Map_mul) (pe_un (un_oD (ok_Map_invert T) (hr.mono (by decide)) T.m_Map_invert) (pv 2)) (pv 0)) (pv 2)) (pv 1) (nomark _))))))), ?_⟩
  refine ⟨_, rfl, p, n, f, rfl, m, _, rfl, r, n, g, rfl, m', ?_⟩
  refine ⟨_, rfl, _, .ref (C_Map K), .ref (C_Map K), .ref (C_Map K), true, rfl, .own _, .base (T.ty_Map h1''), by unfold PySem.W.kitOne; simp, true, rfl, iteF ?_⟩
  refine ⟨_, rfl, p, dx, _, rfl, h1, p, n, f, rfl, m, _, rfl, r, dx', _, rfl, h1', r, n, g, rfl, m', rfl, false, by rw [decide_eq_true rfl]; rfl, iteF ?_⟩
  refine ⟨_, rfl, t, dx'', _, rfl, h1'', t, n, b, rfl, mb, _, rfl, p, dx, _, rfl, h1, p, n, f, rfl, m, rfl, false, by rw [decide_eq_true rfl]; rfl, iteF ?_⟩
  refine ⟨_, rfl, t, dx'', _, rfl, h1'', t, n, b, rfl, mb, _, rfl, by omega, by omega, _, rfl, t, dx'', _, rfl, h1'', t, n, b, rfl, mb, _, _, rfl, rfl, false, ?_, iteF ?_⟩
  · show V.bl (decide (((arr n b).length : Int) < (n : Int))) = V.bl false
    rw [decide_eq_false (by omega)]
  refine ⟨_, rfl, t, dx'', _, rfl, h1'', t, n, b, rfl, mb, fun x1 H1 hx1 s1 k1 => ?_⟩
  have m1 := m.same s1
  obtain ⟨_, _, z1, _⟩ := k1.ob
  obtain ⟨_, _, z2, _⟩ := m1.ob
  refine ⟨_, rfl, x1, p, _, _, _, _, rfl, rfl, z1, z2, x1, p, n, _, f, rfl, k1, m1, fun x2 H2 hx2 s2 k2 => ?_⟩
  have m2 := mb.same (s1.trans s2)
  obtain ⟨_, _, z3, _⟩ := k2.ob
  obtain ⟨_, _, z4, _⟩ := m2.ob
  refine ⟨_, rfl, x2, t, _, _, _, _, rfl, rfl, z3, z4, x2, t, n, _, b, rfl, k2, m2, fun x3 H3 hx3 s3 k3 => ?_⟩
  have s123 := s1.trans (s2.trans s3)
  have m3 := m'.same s123
  obtain ⟨_, _, z5, _⟩ := k3.ob
  obtain ⟨_, _, z6, _⟩ := m3.ob
  exact ⟨_, rfl, x3, r, _, _, _, _, rfl, rfl, z5, z6, x3, r, n, _, g, rfl, k3, m3, q H3 s123⟩
end
end K35
end

section
set_option Elab.async false
set_option linter.all false
set_option maxRecDepth 100000
set_option maxHeartbeats 4000000
/-! W8: choices, group sizes, commuting, extensions, repetition, fate. -/
namespace K35
open PySem PySem.Spec PyProof.Rows L2 CM
section
variable {P : Program} {w : World} {K : PySem.W.Frag} {mg : Str → Option Value} {base : Heap}
def sp_check_degree : Sp := fun vs H Q _ => ∃ d : Nat, vs = [nv d] ∧ 1 ≤ d ∧ d ≤ 12 ∧ Q .non H
theorem ok_check_degree (T : Txt K mg base) : Okd P w K mg base 3 (a_check_degree K) sp_check_degree := by
  refine okd (d := d_check_degree) T 41 rfl rfl sc_check_degree (fun _ _ _ _ _ _ us hl => match us, hl with | [_], _ => rfl) (fun vs H Q E h => ?_) (fun cdv A outer s H vs Q E hr h => ?_)
  · obtain ⟨d, rfl, _⟩ := h; rfl
  obtain ⟨d, rfl, d1, d2, q⟩ := h
  refine ⟨_, (pss_one (ps_if (pt_not (pt_val (pe_cD (ok_in_range T) (hr.mono (by decide)) T.g_in_range (pa_cons (pv 0) (pa_cons pe_int (pa_cons (pe_glob rfl T.i_MAX_DEGREE.choose_spec.1 T.i_MAX_DEGREE.choose_spec.2) pa_nil)))))) (pss_one ps_never) pss_nil)), ?_⟩
  refine ⟨_, rfl, _, _, _, rfl, true, ?_, iteF q⟩
  rw [decide_eq_true (show (1 : Int) ≤ d by omega), decide_eq_true (show (d : Int) ≤ 1000000000000000000000000000000 by omega)]; rfl
def sp_group_size : Sp := fun vs H Q _ => ∃ L d : Nat, vs = [nv L, nv d] ∧ 1 ≤ L ∧ L ≤ 12 ∧ 1 ≤ d ∧ d ≤ 12 ∧ Q (nv (gsz L d)) H
theorem ok_group_size (T : Txt K mg base) : Okd P w K mg base 2 (a_group_size K) sp_group_size := by
  refine okd (d := d_group_size) T 42 rfl rfl sc_group_size (fun _ _ _ _ _ _ us hl => match us, hl with | [_, _], _ => rfl) (fun vs H Q E h => ?_) (fun cdv A outer s H vs Q E hr h => ?_)
  · obtain ⟨L, d, rfl, _⟩ := h; rfl
  obtain ⟨L, d, rfl, l1, l2, d1, d2, q⟩ := h
  refine ⟨_, (pss_cons (ps_set (i := 2) sc_group_size.nd rfl (Or.inl rfl) (pv 1))
      (pss_cons (ps_set (i := 3) sc_group_size.nd rfl (Or.inl rfl) (pe_cD (ok_greatest_divisor T) (hr.mono (by decide)) T.g_greatest_divisor (pa_cons (pv 2) (pa_cons (pv 0) pa_nil))))
      (pss_cons (ps_while PassesOwn.never (pt_cmpR op_gt (pv 3) pe_int (nomark _)) (pss_cons (ps_aug (i := 2) sc_group_size.nd rfl (Or.inl rfl) (pv 3) iop_fdiv)
      (pss_one (ps_set (i := 3) sc_group_size.nd rfl (Or.inl rfl) (pe_cD (ok_greatest_divisor T) (hr.mono (by decide)) T.g_greatest_divisor (pa_cons (pv 2) (pa_cons (pv 0) pa_nil)))))))
      (pss_one (ps_ret (pe_op op_fdiv (pv 1) (pv 2))))))), ?_⟩
  refine ⟨_, rfl, _, rfl, _, rfl, d, L, rfl, ?_⟩
  refine ⟨fun m σ H' => ∃ r : Nat, σ = [some (nv L), some (nv d), some (nv r), some (nv (Nat.gcd r L))] ∧ H' = H ∧ 1 ≤ r ∧ r ≤ m ∧ r ≤ 12 ∧ rsz m L r = rsz 13 L d, ⟨13, d, rfl, rfl, d1, by omega, d2, rfl⟩, ?_⟩
  rintro m σ H' ⟨r, rfl, rfl, r1, rm, r2, er⟩
  refine ⟨_, rfl, _, _, rfl, rfl, _, rfl, ?_⟩
  obtain ⟨k, rfl⟩ : ∃ k, m = k + 1 := ⟨m - 1, by omega⟩
  rw [rsz] at er
  have gd : Nat.gcd r L ∣ r := Nat.gcd_dvd_left r L
  have gl : Nat.gcd r L ≤ r := Nat.le_of_dvd (by omega) gd
  have gp : 0 < Nat.gcd r L := Nat.gcd_pos_of_pos_left _ (by omega)
  refine ite2 (fun h => ?_) (fun h => ?_)
  · have h1 : 1 < Nat.gcd r L := by have := of_decide_eq_true h; omega
    rw [if_pos h1] at er
    have h2 : r / Nat.gcd r L < r := Nat.div_lt_self (by omega) h1
    have h3 : 1 ≤ r / Nat.gcd r L := Nat.div_pos gl gp
    refine ⟨fun σ' H'' => _, fun σ' H'' z => ⟨k, Nat.lt_succ_self k, z⟩, _, rfl, _, rfl, _, _, rfl, rfl, ⟨by omega, by omega⟩, ?_⟩
    exact ⟨_, rfl, _, rfl, r / Nat.gcd r L, L, rfl, r / Nat.gcd r L, rfl, rfl, h3, by omega, by omega, er⟩
  · have h1 : ¬ 1 < Nat.gcd r L := fun h2 => h (decide_eq_true (by omega))
    rw [if_neg h1] at er
    refine ⟨_, rfl, _, rfl, _, _, rfl, rfl, ⟨by omega, by omega⟩, ?_⟩
    have : gsz L d = d / r := by rw [gsz, ← er]
    rw [this] at q
    exact q
def sp_choices : Sp := fun vs H Q _ => ∃ s p : Nat, vs = [nv s, nv p] ∧ p ≤ s ∧ s ≤ 12 ∧ Q (nv (chN s p)) H
theorem ok_choices (T : Txt K mg base) : Okd P w K mg base 1 (a_choices K) sp_choices := by
  refine okd (d := d_choices) T 50 rfl rfl sc_choices (fun _ _ _ _ _ _ us hl => match us, hl with | [_, _], _ => rfl) (fun vs H Q E h => ?_) (fun cdv A outer s H vs Q E hr h => ?_)
  · obtain ⟨s, p, rfl, _⟩ := h; rfl
  obtain ⟨sz, p, rfl, hp, hs, q⟩ := h
  refine ⟨_, (pss_cons (ps_set (i := 2) sc_choices.nd rfl (Or.inl rfl) pe_int)
      (pss_cons (ps_for PassesOwn.never rfl (pi_range1 rfl T.f_range (pa_cons (pv 1) pa_nil)) (pg_name (i := 3) sc_choices.nd rfl (Or.inl rfl))
      (pss_one (ps_set (i := 2) sc_choices.nd rfl (Or.inl rfl) (pe_op op_fdiv (pe_op op_mul (pv 2) (pe_op op_sub (pv 0) (pv 3))) (pe_op op_add (pv 3) pe_int)))))
      (pss_one (ps_ret (pe_ifExp (pt_cmpR op_le (pv 1) (pv 0) (nomark _)) (pv 2) pe_int))))), ?_⟩
  refine ⟨_, rfl, p, rfl, by omega, by omega, ?_⟩
  rw [Int.toNat_natCast]
  refine for_it walk_range0 (fun i σ H' => ∃ o, σ = [some (nv sz), some (nv p), some (nv (chN sz i)), o] ∧ H' = H) ⟨none, rfl, rfl⟩ (fun _ _ _ _ _ => trivial) ?_ ?_
  · rintro i v σ H' H'' hi ⟨o, rfl, rfl⟩ ⟨rfl, rfl⟩
    refine ⟨_, rfl, _, rfl, _, rfl, _, _, rfl, rfl, _, _, rfl, rfl, .inr ⟨by omega, by omega⟩, _, rfl, _, _, rfl, rfl, _, _, rfl, rfl, ⟨by omega, by omega⟩, some (nv i), ?_, rfl⟩
    have : (chN sz i : Int) * ((sz : Int) - (i : Int)) / ((i : Int) + 1) = ((chN sz (i + 1) : Nat) : Int) := by
      rw [chN, show (sz : Int) - (i : Int) = ((sz - i : Nat) : Int) by omega, show (i : Int) + 1 = ((i + 1 : Nat) : Int) by omega]
      rw [← Int.natCast_mul]; rfl
    show [some (nv sz), some (nv p), some (V.int ((chN sz i : Int) * ((sz : Int) - (i : Int)) / ((i : Int) + 1))), some (nv i)] = _
    rw [this]
  · rintro σ H' ⟨o, rfl, rfl⟩
    refine ⟨_, rfl, _, rfl, _, _, rfl, rfl, true, ?_, iteT ⟨_, rfl, q⟩⟩
    show V.bl (decide ((p : Int) ≤ (sz : Int))) = V.bl true
    rw [decide_eq_true (by omega)]
def sp_commute (K : PySem.W.Frag) : Sp := fun vs H Q _ => ∃ p r n f g, vs = [.ref p, .ref r] ∧ MapAt K H p n f ∧ MapAt K H r n g ∧ ∀ H', Same H H' → Q (.bl (eqF n (mulF f g) (mulF g f))) H'
theorem ok_commute (T : Txt K mg base) : Okd P w K mg base 7 (a_commute K) (sp_commute K) := by
  refine okd (d := d_commute) T 56 rfl rfl sc_commute (fun _ _ _ _ _ _ us hl => match us, hl with | [_, _], _ => rfl) (fun vs H Q E h => ?_) (fun cdv A outer s H vs Q E hr h => ?_)
  · obtain ⟨p, r, n, f, g, rfl, _⟩ := h; rfl
  obtain ⟨p, r, n, f, g, rfl, m, m', q⟩ := h
  obtain ⟨dx, d, h1, h2⟩ := m.ob
  obtain ⟨dx', d', h1', h2'⟩ := m'.ob
  refine ⟨_, (pss_cons (ps_expr (pe_cD (ok_check_maps T) (hr.mono (by decide)) T.g_check_maps (pa_cons (pv 0) (pa_cons (pv 1) pa_nil))))
      (pss_one (ps_ret (pe_cmpR (cmp_oD (ok_Map_eq T) (hr.mono (by decide)) T.m_Map_eq) (pe_op (op_oD (ok_Map_mul T) (hr.mono (by decide)) (T.c.ex 7) T.m_Map_mul) (pv 0) (pv 1)) (pe_op (op_oD (ok_Map_mul T) (hr.mono (by decide)) (T.c.ex 7) T.m_Map_mul) (pv 1) (pv 0)) (nomark _))))), ?_⟩
  refine ⟨_, rfl, _, rfl, p, r, n, f, g, rfl, m, m', ?_⟩
  refine ⟨_, rfl, _, rfl, p, r, dx, dx', _, _, rfl, rfl, h1, h1', p, r, n, f, g, rfl, m, m', fun x H1 hx s1 k1 => ?_⟩
  refine ⟨_, rfl, _, rfl, r, p, dx', dx, _, _, rfl, rfl, s1 _ _ h1', s1 _ _ h1, r, p, n, g, f, rfl, m'.same s1, m.same s1, fun y H2 hy s2 k2 => ?_⟩
  have k1' := k1.same s2
  obtain ⟨_, _, z1, _⟩ := k1'.ob
  obtain ⟨_, _, z2, _⟩ := k2.ob
  exact ⟨x, y, _, _, _, _, rfl, rfl, z1, z2, x, y, n, _, _, rfl, k1', k2, q H2 (s1.trans s2)⟩
def sp_count_commuting (K : PySem.W.Frag) : Sp := fun vs H Q _ => ∃ p n f, vs = [.ref p] ∧ MapAt K H p n f ∧ ∀ H', Same H H' → Q (nv (csym (lc n f) (lh n f))) H'
theorem ok_count_commuting (T : Txt K mg base) : Okd P w K mg base 6 (a_count_commuting K) (sp_count_commuting K) := by
  refine okd (d := d_count_commuting) T 57 rfl rfl sc_count_commuting (fun _ _ _ _ _ _ us hl => match us, hl with | [_], _ => rfl) (fun vs H Q E h => ?_) (fun cdv A outer s H vs Q E hr h => ?_)
  · obtain ⟨p, n, f, rfl, _⟩ := h; rfl
  obtain ⟨p, n, f, rfl, m, q⟩ := h
  refine ⟨_, (pss_one (ps_ret (pe_cD (ok_count_symmetries T) (hr.mono (by decide)) T.g_count_symmetries (pa_cons (pe_cD (ok_shape_of T) (hr.mono (by decide)) T.g_shape_of (pa_cons (pv 0) pa_nil)) pa_nil)))), ?_⟩
  exact ⟨_, rfl, p, n, f, rfl, m, fun x H1 hx s1 sh => ⟨x, _, _, rfl, sh, fun H2 s2 => q H2 (s1.trans s2)⟩⟩
def sp_count_extensions (K : PySem.W.Frag) : Sp := fun vs H Q _ => ∃ p n f, vs = [.ref p, .int 5] ∧ MapAt K H p n f ∧ Q (nv (cext n (arr n f).length)) H
theorem ok_count_extensions (T : Txt K mg base) : Okd P w K mg base 3 (a_count_extensions K) (sp_count_extensions K) := by
  refine okd (d := d_count_extensions) T 58 rfl rfl sc_count_extensions (fun _ _ _ _ _ _ us hl => match us, hl with | [_, _], _ => rfl) (fun vs H Q E h => ?_) (fun cdv A outer s H vs Q E hr h => ?_)
  · obtain ⟨p, n, f, rfl, _⟩ := h; rfl
  obtain ⟨p, n, f, rfl, m, q⟩ := h
  obtain ⟨dx, d, h1, h2⟩ := m.ob
  have n2 := m.n2
  have al := arr_len n f
  generalize hl : (arr n f).length = l at *
  refine ⟨_, (pss_cons (ps_expr (pe_cD (ok_check_map T) (hr.mono (by decide)) T.g_check_map (pa_cons (pv 0) pa_nil)))
      (pss_cons (ps_if (pt_not (pt_val (pe_cD (ok_in_range T) (hr.mono (by decide)) T.g_in_range (pa_cons (pv 1) (pa_cons pe_int (pa_cons (pe_glob rfl T.i_MAX_SIZE.choose_spec.1 T.i_MAX_SIZE.choose_spec.2) pa_nil)))))) (pss_one ps_never) pss_nil)
      (pss_cons (ps_par (i := 2) (j := 3) rfl sc_count_extensions.nd rfl rfl (by decide) rfl rfl (pa_cons (pe_op op_sub (pv 1) (pe_callB (len_oD (ok_Map_len T) (hr.mono (by decide)) T.m_Map_len) rfl T.f_len (by decide +kernel) (pa_cons (pv 0) pa_nil))) (pa_cons (pe_op op_sub (pe_prD (ok_Map_size T) (hr.mono (by decide)) T.cl_Map T.p_Map_size (pv 0)) (pe_callB (len_oD (ok_Map_len T) (hr.mono (by decide)) T.m_Map_len) rfl T.f_len (by decide +kernel) (pa_cons (pv 0) pa_nil))) pa_nil)) (by rfl))
      (pss_cons (ps_if (PW.pt (pw_or (pt_cmpR op_lt (pv 2) pe_int (nomark _)) (pw_or1 (pt_cmpR op_gt (pv 2) (pv 3) (nomark _))))) (pss_one (ps_ret pe_int)) pss_nil)
      (pss_one (ps_ret (pe_op op_mul (pe_op op_mul (pe_cD (ok_choices T) (hr.mono (by decide)) T.g_choices (pa_cons (pv 3) (pa_cons (pv 2) pa_nil))) (pe_cD (ok_choices T) (hr.mono (by decide)) T.g_choices (pa_cons (pv 3) (pa_cons (pv 2) pa_nil)))) (pe_cD (ok_factorial T) (hr.mono (by decide)) T.g_factorial (pa_cons (pv 2) pa_nil))))))))), ?_⟩
  refine ⟨_, rfl, p, n, f, rfl, m, ?_⟩
  refine ⟨_, rfl, _, _, _, rfl, true, rfl, iteF ?_⟩
  refine ⟨_, rfl, _, rfl, p, dx, _, rfl, h1, p, n, f, rfl, m, _, rfl, by omega, by omega, _, _, rfl, rfl, ?_⟩
  refine ⟨_, rfl, p, dx, _, rfl, h1, p, n, f, rfl, m, _, rfl, p, dx, _, rfl, h1, p, n, f, rfl, m, _, rfl, by omega, by omega, _, _, rfl, rfl, ?_⟩
  rw [hl]
  refine ⟨_, _, rfl, ?_⟩
  refine ⟨_, rfl, _, _, rfl, rfl, _, rfl, ?_⟩
  unfold cext at q
  by_cases c1 : l ≤ 5
  · rw [show decide ((5 : Int) - (l : Int) < 0) = false from decide_eq_false (by omega)]
    refine iteF ⟨_, rfl, _, rfl, _, _, rfl, rfl, _, rfl, ?_⟩
    by_cases c2 : 5 - l ≤ n - l
    · rw [if_pos ⟨c1, c2⟩] at q
      rw [show decide ((n : Int) - (l : Int) < (5 : Int) - (l : Int)) = false from decide_eq_false (by omega)]
      have e1 : (5 : Int) - (l : Int) = ((5 - l : Nat) : Int) := by omega
      have e2 : (n : Int) - (l : Int) = ((n - l : Nat) : Int) := by omega
      have b1 := chN_small (n - l) (by omega) (5 - l) (by omega)
      have b2 := small_fac (5 - l) (by omega)
      have e3 : [V.int ((n : Int) - (l : Int)), V.int ((5 : Int) - (l : Int))] = [nv (n - l), nv (5 - l)] := by rw [e1, e2]
      have e4 : [V.int ((5 : Int) - (l : Int))] = [nv (5 - l)] := by rw [e1]
      refine iteF ⟨_, rfl, _, rfl, n - l, 5 - l, e3, c2, by omega, _, rfl, _, rfl, n - l, 5 - l, e3, c2, by omega, _, _, rfl, rfl, .inl ⟨by omega, by omega⟩, _, rfl, 5 - l, e4, by omega, _, _, rfl, rfl, .inr ⟨by omega, by omega⟩, ?_⟩
      show Q (V.int (((chN (n - l) (5 - l) : Nat) : Int) * ((chN (n - l) (5 - l) : Nat) : Int) * ((fac (5 - l) : Nat) : Int))) H
      rw [← Int.natCast_mul, ← Int.natCast_mul]
      exact q
    · rw [if_neg (fun z => c2 z.2)] at q
      rw [show decide ((n : Int) - (l : Int) < (5 : Int) - (l : Int)) = true from decide_eq_true (by omega)]
      exact iteT q
  · rw [if_neg (fun z => c1 z.1)] at q
    rw [show decide ((5 : Int) - (l : Int) < 0) = true from decide_eq_true (by omega)]
    exact iteT (iteT q)
def sp_common_multiple : Sp := fun vs H Q _ => ∃ (a : Addr) (xs : List Nat), vs = [.ref a] ∧ LiAt H a xs ∧ (∀ x ∈ xs, 1 ≤ x ∧ x ≤ 12) ∧ Q (nv (lcmL xs)) H
theorem ok_common_multiple (T : Txt K mg base) : Okd P w K mg base 2 (a_common_multiple K) sp_common_multiple := by
  refine okd (d := d_common_multiple) T 59 rfl rfl sc_common_multiple (fun _ _ _ _ _ _ us hl => match us, hl with | [_], _ => rfl) (fun vs H Q E h => ?_) (fun cdv A outer s H vs Q E hr h => ?_)
  · obtain ⟨a, xs, rfl, _⟩ := h; rfl
  obtain ⟨a, xs, rfl, ha, bd, q⟩ := h
  refine ⟨_, (pss_cons (ps_set (i := 1) sc_common_multiple.nd rfl (Or.inl rfl) pe_int)
      (pss_cons (ps_for PassesOwn.never rfl (pi_list (pv 0)) (pg_name (i := 2) sc_common_multiple.nd rfl (Or.inl rfl))
      (pss_one (ps_set (i := 1) sc_common_multiple.nd rfl (Or.inl rfl) (pe_op op_mul (pe_op op_fdiv (pv 1) (pe_cD (ok_greatest_divisor T) (hr.mono (by decide)) T.g_greatest_divisor (pa_cons (pv 1) (pa_cons (pv 2) pa_nil)))) (pv 2)))))
      (pss_one (ps_ret (pv 1))))), ?_⟩
  refine ⟨_, rfl, a, rfl, ⟨_, SqL.of ha⟩, ?_⟩
  refine for_it walk_li (fun i σ H' => ∃ o, σ = [some (.ref a), some (nv (lcmL (xs.take i))), o] ∧ H' = H) ⟨none, rfl, rfl⟩ (fun i σ H' _ ⟨_, _, e⟩ => by rw [e]; exact SqL.of ha) ?_ ?_
  · rintro i v σ H' H'' hi ⟨o, rfl, rfl⟩ ⟨rfl, ev⟩
    have e := List.getElem?_eq_getElem hi
    have em := bd _ (List.getElem_mem hi)
    rw [li_get e] at ev
    cases ev
    have ex : lcmL (xs.take (i + 1)) = lcmL (xs.take i) / Nat.gcd (lcmL (xs.take i)) xs[i] * xs[i] := by rw [lcmL, List.take_succ, e, List.foldl_append]; rfl
    generalize lcmL (xs.take i) = F at *
    generalize xs[i] = x at *
    have gp : 0 < Nat.gcd F x := Nat.gcd_pos_of_pos_right _ (by omega)
    have gl : Nat.gcd F x ≤ x := Nat.gcd_le_right _ (by omega)
    refine ⟨_, rfl, _, rfl, _, rfl, F, x, rfl, _, _, rfl, rfl, ⟨by omega, by omega⟩, _, rfl, _, _, rfl, rfl, .inr ⟨by omega, by omega⟩, some (nv x), ?_, rfl⟩
    show [some (V.ref a), some (V.int ((F : Int) / ((Nat.gcd F x : Nat) : Int) * (x : Int))), some (nv x)] = _
    rw [ex, ← Int.natCast_ediv, ← Int.natCast_mul]
  · rintro σ H' ⟨o, rfl, rfl⟩
    rw [List.take_length]
    exact ⟨_, rfl, q⟩
def sp_repetition_of : Sp := fun vs H Q _ => ∃ (a b : Addr) (xs ys : List Nat), vs = [.ref a, .ref b] ∧ LiAt H a xs ∧ LiAt H b ys ∧ (∀ x ∈ xs, 1 ≤ x ∧ x ≤ 12) ∧ ∀ t, H t = none → Q (.ref t) (upd H t (.tup [nv (maxL ys 1), nv (lcmL xs)]))
theorem ok_repetition_of (T : Txt K mg base) : Okd P w K mg base 3 (a_repetition_of K) sp_repetition_of := by
  refine okd (d := d_repetition_of) T 60 rfl rfl sc_repetition_of (fun _ _ _ _ _ _ us hl => match us, hl with | [_, _], _ => rfl) (fun vs H Q E h => ?_) (fun cdv A outer s H vs Q E hr h => ?_)
  · obtain ⟨a, b, xs, ys, rfl, _⟩ := h; rfl
  obtain ⟨a, b, xs, ys, rfl, ha, hb, bd, q⟩ := h
  refine ⟨_, (pss_one (ps_ret (pe_tup (pa_cons (pe_cD (ok_largest T) (hr.mono (by decide)) T.g_largest (pa_cons (pv 1) (pa_cons pe_int pa_nil))) (pa_cons (pe_cD (ok_common_multiple T) (hr.mono (by decide)) T.g_common_multiple (pa_cons (pv 0) pa_nil)) pa_nil))))), ?_⟩
  exact ⟨_, rfl, b, ys, 1, rfl, hb, _, rfl, a, xs, rfl, ha, bd, by show 2 ≤ sizeLine; decide, q⟩
def sp_repetition (K : PySem.W.Frag) : Sp := fun vs H Q _ => ∃ p n f, vs = [.ref p] ∧ MapAt K H p n f ∧ ∀ t H', Same H H' → H' t = some (.tup [nv (maxL (lh n f) 1), nv (lcmL (lc n f))]) → Q (.ref t) H'
theorem ok_repetition (T : Txt K mg base) : Okd P w K mg base 4 (a_repetition K) (sp_repetition K) := by
  refine okd (d := d_repetition) T 61 rfl rfl sc_repetition (fun _ _ _ _ _ _ us hl => match us, hl with | [_], _ => rfl) (fun vs H Q E h => ?_) (fun cdv A outer s H vs Q E hr h => ?_)
  · obtain ⟨p, n, f, rfl, _⟩ := h; rfl
  obtain ⟨p, n, f, rfl, m, q⟩ := h
  have n2 := m.n2
  obtain ⟨c1, c2⟩ := cys_few m.pi
  have sh := Sh.of m.pi n2
  refine ⟨_, (pss_cons (ps_expr (pe_cD (ok_check_map T) (hr.mono (by decide)) T.g_check_map (pa_cons (pv 0) pa_nil)))
      (pss_cons (ps_asg (pe_cD (ok_parts_of T) (hr.mono (by decide)) T.g_parts_of (pa_cons (pv 0) pa_nil)) (pg_tup rfl (pgs_cons (pg_name (i := 1) sc_repetition.nd rfl (Or.inl rfl)) (pgs_cons (pg_name (i := 2) sc_repetition.nd rfl (Or.inl rfl)) pgs_nil))))
      (pss_one (ps_ret (pe_cD (ok_repetition_of T) (hr.mono (by decide)) T.g_repetition_of (pa_cons (pe_lc (own := [("cycle", 3)]) rfl sc_repetition.nd (pi_list (pv 1)) (blkOk_by (N := N_repetition) (sc := defScope s_repetition) (by decide +kernel)) (fun _ _ _ _ _ => (pg_name (i := 3) sc_repetition.nd rfl (Or.inl rfl))) (fun _ _ _ _ _ => pts_nil) (fun _ _ _ _ _ => (pe_callB (lenK_seq (K := K) rfl) rfl T.f_len (by decide +kernel) (pa_cons (pv 3) pa_nil)))) (pa_cons (pe_lc (own := [("chain", 4)]) rfl sc_repetition.nd (pi_list (pv 2)) (blkOk_by (N := N_repetition) (sc := defScope s_repetition) (by decide +kernel)) (fun _ _ _ _ _ => (pg_name (i := 4) sc_repetition.nd rfl (Or.inl rfl))) (fun _ _ _ _ _ => pts_nil) (fun _ _ _ _ _ => (pe_callB (lenK_seq (K := K) rfl) rfl T.f_len (by decide +kernel) (pa_cons (pv 4) pa_nil)))) pa_nil))))))), ?_⟩
  refine ⟨_, rfl, p, n, f, rfl, m, ?_⟩
  refine ⟨_, rfl, p, n, f, rfl, m, fun t ac ah H1 s1 ht rc rh => ?_⟩
  refine ⟨t, _, rfl, SqT.of ht, rfl, _, _, rfl, _, _, rfl, rfl, ?_⟩
  obtain ⟨qc, ec, hc, kc⟩ := rc
  obtain ⟨qh, eh, hh, kh⟩ := rh
  have lq : qc.length ≤ 12 := by have := congrArg List.length ec; rw [List.length_map] at this; omega
  have lq' : qh.length ≤ 12 := by have := congrArg List.length eh; rw [List.length_map] at this; omega
  have fm : ∀ qs : List (Addr × List Nat), qs.filterMap (fun q => some (nv q.2.length)) = li ((qs.map (·.2)).map List.length) := fun qs => by
    rw [List.filterMap_eq_map', li, List.map_map, List.map_map]; rfl
  refine ⟨_, rfl, ac, rfl, ⟨_, SqL.of hc⟩, ?_⟩
  refine lc_rows hc (by intros; rfl) (fun q => some (nv q.2.length)) (by omega) (fun q H' hq s => Et.yes) (fun r v H' hr' e s Q' q' => ?_) fun a H2 s2 hA h2 => ?_
  · cases e
    refine ⟨_, rfl, r.1, _, rfl, .inl (SqL.of (s _ _ (kc r hr'))), ?_⟩
    rw [li_length]; exact q'
  rw [fm, ec] at h2
  refine ⟨_, rfl, ah, rfl, ⟨_, SqL.of (s2 _ _ hh)⟩, ?_⟩
  refine lc_rows (s2 _ _ hh) (by intros; rfl) (fun q => some (nv q.2.length)) (by omega) (fun q H' hq s => Et.yes) (fun r v H' hr' e s Q' q' => ?_) fun b H3 s3 hB h3 => ?_
  · cases e
    refine ⟨_, rfl, r.1, _, rfl, .inl (SqL.of (s _ _ (s2 _ _ (kh r hr')))), ?_⟩
    rw [li_length]; exact q'
  rw [fm, eh] at h3
  refine ⟨a, b, _, _, rfl, s3 _ _ h2, h3, fun x hx => ?_, fun t2 ht2 => ?_⟩
  · have h1 := sh.lp x hx
    have h2 := sh.lt.1 x hx
    omega
  · exact q t2 _ ((s1.trans (s2.trans s3)).trans (same_new (Same.refl _) ht2)) upd_same
def sp_check_elements : Sp := fun vs H Q _ => ∃ (n x : Nat) (a : Addr), vs = [nv n, .ref a] ∧ LiAt H a [x] ∧ x < n ∧ ∀ H', Same H H' → Q .non H'
theorem ok_check_elements (T : Txt K mg base) : Okd P w K mg base 3 (a_check_elements K) sp_check_elements := by
  refine okd (d := d_check_elements) T 3 rfl rfl sc_check_elements (fun _ _ _ _ _ _ us hl => match us, hl with | [_, _], _ => rfl) (fun vs H Q E h => ?_) (fun cdv A outer s H vs Q E hr h => ?_)
  · obtain ⟨n, x, a, rfl, _⟩ := h; rfl
  obtain ⟨n, x, a, rfl, ha, hx, q⟩ := h
  refine ⟨_, (pss_cons (ps_set (i := 2) sc_check_elements.nd rfl (Or.inl rfl) pe_dnewK)
      (pss_one (ps_for PassesOwn.never rfl (pi_list (pv 1)) (pg_name (i := 3) sc_check_elements.nd rfl (Or.inl rfl))
      (pss_cons (ps_if (PW.pt (pw_or (pt_not (pt_val (pe_cD (ok_in_range T) (hr.mono (by decide)) T.g_in_range (pa_cons (pv 3) (pa_cons pe_int (pa_cons (pe_op op_sub (pv 0) pe_int) pa_nil)))))) (pw_or1 (pt_cmp (pc_din (hu_of hr) (pv 3) (pv 2)))))) (pss_one ps_never) pss_nil)
      (pss_one (ps_dput (hu_of hr) (pv 2) (pv 3) pe_bl rfl)))))), ?_⟩
  intro d hd
  have s0 := same_new (o := .dK []) (Same.refl H) hd
  refine ⟨_, rfl, a, rfl, ⟨_, SqL.of (s0 _ _ ha)⟩, ?_⟩
  refine for_it (walk_li (ns := [x])) (fun i σ H' => ∃ o, σ = [some (nv n), some (.ref a), some (.ref d), o] ∧ Same H H' ∧ (i = 0 → H' d = some (.dK []))) ⟨none, rfl, s0, fun _ => upd_same⟩ (fun i σ H' _ ⟨_, _, s, _⟩ => SqL.of (s _ _ ha)) ?_ ?_
  · rintro i v σ H' H'' hi ⟨o, rfl, s, h0⟩ ⟨rfl, ev⟩
    have : i = 0 := by simp at hi; exact hi
    subst this
    have ev : some (nv x) = some v := ev
    cases ev
    have hd' := h0 rfl
    refine ⟨_, rfl, _, rfl, _, _, rfl, rfl, _, _, _, rfl, true, ?_, iteF ?_⟩
    · rw [decide_eq_true (show (0 : Int) ≤ x by omega), decide_eq_true (show (x : Int) ≤ n - 1 by omega)]; rfl
    refine ⟨_, rfl, _, rfl, d, _, rfl, DGet.k (k := nk x) hd', false, rfl, iteF ?_⟩
    refine ⟨_, rfl, _, rfl, d, _, rfl, DPut.k (k := nk x) hd' (by show 0 < sizeLine; decide), _, rfl, same_at s hd, fun z => by cases z⟩
  · rintro σ H' ⟨o, rfl, s, _⟩
    exact q H' s
def sp_fate (K : PySem.W.Frag) : Sp := fun vs H Q _ => ∃ p n f x, vs = [.ref p, nv x] ∧ MapAt K H p n f ∧ x < n ∧ ∀ H', Same H H' → Q (((fateO n f x).map nv).getD .non) H'
theorem ok_fate (T : Txt K mg base) : Okd P w K mg base 4 (a_fate K) (sp_fate K) := by
  refine okd (d := d_fate) T 62 rfl rfl sc_fate (fun _ _ _ _ _ _ us hl => match us, hl with | [_, _], _ => rfl) (fun vs H Q E h => ?_) (fun cdv A outer s H vs Q E hr h => ?_)
  · obtain ⟨p, n, f, x, rfl, _⟩ := h; rfl
  obtain ⟨p, n, f, x, rfl, m, hx, q⟩ := h
  obtain ⟨dx, d, h1, h2⟩ := m.ob
  have n2 := m.n2
  refine ⟨_, (pss_cons (ps_expr (pe_cD (ok_check_map T) (hr.mono (by decide)) T.g_check_map (pa_cons (pv 0) pa_nil)))
      (pss_cons (ps_expr (pe_cD (ok_check_elements T) (hr.mono (by decide)) T.g_check_elements (pa_cons (pe_prD (ok_Map_size T) (hr.mono (by decide)) T.cl_Map T.p_Map_size (pv 0)) (pa_cons (pe_lst (pa_cons (pv 1) pa_nil)) pa_nil))))
      (pss_cons (ps_set (i := 2) sc_fate.nd rfl (Or.inl rfl) (pe_prD (ok_Map_arrows T) (hr.mono (by decide)) T.cl_Map T.p_Map_arrows (pv 0)))
      (pss_cons (ps_set (i := 3) sc_fate.nd rfl (Or.inl rfl) (pe_cD (ok_row_from T) (hr.mono (by decide)) T.g_row_from (pa_cons (pv 2) (pa_cons (pv 1) pa_nil))))
      (pss_one (ps_ret (pe_ifExp (pt_cmp (pc_din (hu_of hr) (pe_ix ix_list (pv 3) (pe_un un_neg pe_int) (fun _ _ => rfl)) (pv 2))) pe_non (pe_op op_sub (pe_callB call_len_seq rfl T.f_len (by decide +kernel) (pa_cons (pv 3) pa_nil)) pe_int)))))))), ?_⟩
  refine ⟨_, rfl, p, n, f, rfl, m, ?_⟩
  refine ⟨_, rfl, p, dx, _, rfl, h1, p, n, f, rfl, m, _, rfl, by show 1 ≤ sizeLine; decide, fun a ha => ⟨n, x, a, rfl, upd_same, hx, fun H1 s1 => ?_⟩⟩
  have s1' := (same_new (o := .lst [nv x]) (Same.refl H) ha).trans s1
  have m1 := m.same s1'
  refine ⟨_, rfl, p, dx, _, rfl, s1' _ _ h1, p, n, f, rfl, m1, fun d2 hd2 => ?_⟩
  refine ⟨_, rfl, _, rfl, d2, x, n, f, rfl, upd_same, m.pi, hx, n2, fun r H2 hr s2 hl => ?_⟩
  have s2' := (same_new (o := .dK (dk (arr n f))) s1' hd2).trans s2
  have ro := row_ok m.pi hx
  obtain ⟨l, el, fl⟩ := ro.last_some
  refine ⟨_, rfl, 1, rfl, r, _, _, _, rfl, rfl, SqL.of hl, atI_m1 ro.pos el, _, rfl, d2, _, rfl, dgetR (.inl (s2 _ _ upd_same)) (arr_rep m.pi) rfl, _, rfl, ?_⟩
  have q := q H2 s2'
  unfold fateO at q
  rw [Option.isSome_map, fl]
  have rp := ro.pos
  cases e : (it f (row n f x).length x).isSome with
  | true =>
    rw [e] at q
    exact iteT q
  | false =>
    rw [e] at q
    refine iteF ⟨_, rfl, r, _, rfl, .inl (SqL.of hl), _, _, rfl, rfl, ?_⟩
    show Q (V.int (((li (row n f x)).length : Int) - 1)) H2
    rw [li_length, show ((row n f x).length : Int) - 1 = (((row n f x).length - 1 : Nat) : Int) by omega]
    exact q
end
end K35
end

section
set_option Elab.async false
set_option linter.all false
set_option maxRecDepth 100000
set_option maxHeartbeats 4000000
/-! W9: the link of two maps, its parts, the steps. -/
namespace K35
open PySem PySem.Spec PyProof.Rows L2 CM
theorem cut_from (xs : List V) (k : Nat) : cutV xs (some (k : Int)) none = xs.drop k := by
  unfold cutV
  rw [HT.sIx_nat, HT.sIx_none]
  by_cases h : k ≤ xs.length
  · rw [Nat.min_eq_left h]
    exact List.take_of_length_le (by rw [List.length_drop]; exact Nat.le_refl _)
  · rw [Nat.min_eq_right (by omega), Nat.sub_self, List.drop_of_length_le (by omega : xs.length ≤ k)]
    simp
theorem cut_to (xs : List V) (k : Nat) : cutV xs none (some (k : Int)) = xs.take k := by
  unfold cutV
  rw [HT.sIx_nat, HT.sIx_none, List.drop_zero, Nat.sub_zero]
  by_cases h : k ≤ xs.length
  · rw [Nat.min_eq_left h]
  · rw [Nat.min_eq_right (by omega), List.take_of_length_le (Nat.le_refl _), List.take_of_length_le (by omega)]
/-- a comprehension whose turns lay new things -/
theorem lc_mk {J : It} {n : Nat} {G : Hp → Prop} {Y : Nat → Hp → V → Hp → Prop} {g : TG} {tt : TT} {te : TE} {vs : List Nat} {σ : L2.St} {HL : Hp} {tau : Nat → L2.St} (w : Walk J n G Y) (hG : ∀ H', Same HL H' → G H') (B : Bd Y n g vs σ tau) (kept : Nat → Bool) (Rl : Nat → V → Hp → Prop) (hn : n ≤ 1000)
    (mono : ∀ i v H H', Same H H' → Rl i v H → Rl i v H') (st : ∀ i v H D xs ys, H D = some (.lst xs) → Rl i v H → Rl i v (upd H D (.lst ys)))
    (ht : ∀ i H', i < n → Same HL H' → Et tt (tau i) H' (kept i)) (hv : ∀ i H', i < n → kept i = true → Same HL H' → ∀ R : VK, (∀ v H2, Same H' H2 → Rl i v H2 → R v H2) → te (tau i) H' R)
    {Qd : Addr → Hp → Prop} (q : ∀ (D : Addr) (H' : Hp) (ws : List (Nat × V)), Same HL H' → HL D = none → H' D = some (.lst (ws.map (·.2))) → ws.map (·.1) = (List.range n).filter kept → (∀ w ∈ ws, Rl w.1 w.2 H') → Qd D H') : lcR J g tt te vs σ HL Qd := by
  intro D hD
  refine lc_it w (fun i H => ∃ ws : List (Nat × V), Same HL H ∧ H D = some (.lst (ws.map (·.2))) ∧ ws.map (·.1) = (List.range i).filter kept ∧ ∀ w ∈ ws, Rl w.1 w.2 H) ⟨[], same_new (Same.refl _) hD, upd_same, rfl, fun _ h => (by cases h)⟩ (fun i H _ ⟨_, s, _⟩ => hG H s) ?_ fun H ⟨ws, s, h, e, r⟩ => q D H ws s hD h e r
  rintro i x H H' hi ⟨ws, s, h, e, r⟩ y
  obtain ⟨s1, bd⟩ := B.bind i x H H' hi y
  have s' := s.trans s1
  have h' := s1 _ _ h
  refine bd _ ⟨B.wip i hi, ht i H' hi s' _ ?_⟩
  have efs := range_filter_succ kept i
  cases ek : kept i with
  | false =>
    rw [ek] at efs
    exact iteF ⟨ws, s', h', by rw [efs, e]; simp, fun w hw => mono _ _ _ _ s1 (r w hw)⟩
  | true =>
    rw [ek] at efs
    refine iteT (hv i H' hi ek s' _ fun v H2 s2 rv => ⟨_, s2 _ _ h', ?_, ws ++ [(i, v)], same_at (s'.trans s2) hD, by rw [upd_same, List.map_append]; rfl, by rw [List.map_append, e, efs]; rfl, fun w hw => ?_⟩)
    · rw [List.length_map]
      have := congrArg List.length e
      rw [List.length_map] at this
      have h3 := List.length_filter_le kept (List.range i)
      rw [List.length_range] at h3
      exact small12 (by omega)
    · rcases List.mem_append.mp hw with h1 | h1
      · exact st _ _ _ _ _ _ (s2 _ _ h') (mono _ _ _ _ (s1.trans s2) (r w h1))
      · have : w = (i, v) := by simpa using h1
        subst this
        exact st _ _ _ _ _ _ (s2 _ _ h') rv
/-- a step as a tuple -/
def stv : Stp → List V
  | .sw a b => [.str "swap", nv a, nv b]
  | .fg a => [.str "forget", nv a]
def StpV (s : Stp) (v : V) (H : Hp) : Prop := ∃ t, v = .ref t ∧ H t = some (.tup (stv s))
theorem StpV.mono {s : Stp} {v : V} {H H' : Hp} (h : StpV s v H) (e : Same H H') : StpV s v H' := let ⟨t, a, b⟩ := h; ⟨t, a, e _ _ b⟩
theorem StpV.st {s : Stp} {v : V} {H : Hp} {D : Addr} {xs ys : List V} (h : StpV s v H) (hD : H D = some (.lst xs)) : StpV s v (upd H D (.lst ys)) :=
  let ⟨t, a, b⟩ := h
  ⟨t, a, by rw [upd_ne (ne_of b hD (by intro z; cases z))]; exact b⟩
def StepsAt (H : Hp) (a : Addr) (ss : List Stp) : Prop := ∃ ws : List (Stp × V), ws.map (·.1) = ss ∧ H a = some (.lst (ws.map (·.2))) ∧ ∀ w ∈ ws, StpV w.1 w.2 H
theorem StepsAt.same {H H' : Hp} {a : Addr} {ss : List Stp} (h : StepsAt H a ss) (e : Same H H') : StepsAt H' a ss := let ⟨ws, h1, h2, h3⟩ := h; ⟨ws, h1, e _ _ h2, fun w hw => (h3 w hw).mono e⟩
section
variable {P : Program} {w : World} {K : PySem.W.Frag} {mg : Str → Option Value} {base : Heap}
def sp_link_of (K : PySem.W.Frag) : Sp := fun vs H Q _ => ∃ p r n f g, vs = [.ref p, .ref r] ∧ MapAt K H p n f ∧ MapAt K H r n g ∧ (lkB n f g = false → ∀ H', Same H H' → Q .non H') ∧ (lkB n f g = true → ∀ x H', Same H H' → MapAt K H' x n (linkF n f g) → Q (.ref x) H')
theorem ok_link_of (T : Txt K mg base) : Okd P w K mg base 6 (a_link_of K) (sp_link_of K) := by
  refine okd (d := d_link_of) T 67 rfl rfl sc_link_of (fun _ _ _ _ _ _ us hl => match us, hl with | [_, _], _ => rfl) (fun vs H Q E h => ?_) (fun cdv A outer s H vs Q E hr h => ?_)
  · obtain ⟨p, r, n, f, g, rfl, _⟩ := h; rfl
  obtain ⟨p, r, n, f, g, rfl, m, m', q0, q1⟩ := h
  obtain ⟨dx, d, h1, h2⟩ := m.ob
  obtain ⟨dx', d', h1', h2'⟩ := m'.ob
  refine ⟨_, (pss_cons (ps_asg (pe_tup (pa_cons (pe_prD (ok_Map_arrows T) (hr.mono (by decide)) T.cl_Map T.p_Map_arrows (pv 0)) (pa_cons (pe_prD (ok_Map_arrows T) (hr.mono (by decide)) T.cl_Map T.p_Map_arrows (pv 1)) pa_nil))) (pg_tup rfl (pgs_cons (pg_name (i := 2) sc_link_of.nd rfl (Or.inr rfl)) (pgs_cons (pg_name (i := 3) sc_link_of.nd rfl (Or.inl rfl)) pgs_nil))))
      (pss_cons (ps_if (pt_not (pt_val (pe_callB (cr_all rfl) rfl T.f_all (by decide +kernel) (pa_cons (pe_lock (pe_lc (own := [("source", 4)]) rfl sc_link_of.nd (pi_keys (pv 3)) (blkOk_by (N := N_link_of) (sc := defScope s_link_of) (by decide +kernel)) (fun _ _ _ _ _ => (pg_name (i := 4) sc_link_of.nd rfl (Or.inl rfl))) (fun _ _ _ _ _ => pts_nil) (fun _ _ _ _ _ => (pe_cmp (pc_din (hu_of hr) (pv 4) (pv 2)))))) pa_nil)))) (pss_one (ps_ret pe_non)) pss_nil)
      (pss_one (ps_ret (pe_mkD (ok_Map_init T) T.mk_Map (hr.mono (by decide)) T.g_Map (pa_cons (pe_prD (ok_Map_size T) (hr.mono (by decide)) T.cl_Map T.p_Map_size (pv 0)) (pa_cons (pe_lock (pe_dc (own := [("source", 4), ("target", 5)]) rfl sc_link_of.nd (pi_items (pv 3)) (blkOk_by (N := N_link_of) (sc := defScope s_link_of) (by decide +kernel)) (fun _ _ _ _ _ => (pgK_tup (K := K) (n := 2) rfl rfl (pgs_cons (pg_name (i := 4) sc_link_of.nd rfl (Or.inl rfl)) (pgs_cons (pg_name (i := 5) sc_link_of.nd rfl (Or.inl rfl)) pgs_nil)))) (fun _ _ _ _ _ => pts_nil) (fun _ _ _ _ _ => (pe_dget (hu_of hr) (pv 2) (pv 4) (fun _ _ => rfl))) (fun _ _ _ _ _ => (pv 5)))) pa_nil))))))), ?_⟩
  refine ⟨_, rfl, p, dx, _, rfl, h1, p, n, f, rfl, m, fun dA hdA => ?_⟩
  have sA := same_new (o := .dK (dk (arr n f))) (Same.refl H) hdA
  refine ⟨_, rfl, r, dx', _, rfl, sA _ _ h1', r, n, g, rfl, m'.same sA, fun dE hdE => ⟨by show 2 ≤ sizeLine; decide, fun t ht => ?_⟩⟩
  have sE := same_new (o := .dK (dk (arr n g))) sA hdE
  have sT := same_new (o := .tup [V.ref dA, V.ref dE]) sE ht
  have a2 : (upd (upd (upd H dA (.dK (dk (arr n f)))) dE (.dK (dk (arr n g)))) t (.tup [V.ref dA, V.ref dE])) dA = some (.dK (dk (arr n f))) := by
    have h : (upd (upd H dA (.dK (dk (arr n f)))) dE (.dK (dk (arr n g)))) dA = some (.dK (dk (arr n f))) := by rw [upd_ne (ne_of_none upd_same hdE), upd_same]
    rw [upd_ne (ne_of_none h ht)]; exact h
  have e2 : (upd (upd (upd H dA (.dK (dk (arr n f)))) dE (.dK (dk (arr n g)))) t (.tup [V.ref dA, V.ref dE])) dE = some (.dK (dk (arr n g))) := by
    rw [upd_ne (ne_of_none upd_same ht), upd_same]
  have nAE : dA ≠ dE := ne_of_none upd_same hdE
  refine ⟨t, _, rfl, SqT.of upd_same, rfl, _, _, rfl, _, _, rfl, rfl, ?_⟩
  generalize upd (upd (upd H dA (.dK (dk (arr n f)))) dE (.dK (dk (arr n g)))) t (.tup [V.ref dA, V.ref dE]) = H1 at sT a2 e2
  clear ht hdE hdA sE sA
  -- every end starts in arrows
  refine ⟨dE, .dK (dk (arr n g)), e2, True.intro, fun od => ⟨_, rfl, dE, od, rfl, .inl ⟨_, upd_same, ?_⟩⟩⟩
  have gl := m'.small
  refine lc_li walk_liK (fun H' s => s _ _ upd_same) (by intros; rfl) (fun x => some (.bl (f x).isSome)) (by rw [List.length_map]; omega) (fun x H' hx s => Et.yes) (fun x v H' hx e s Q' q' => ?_) fun D H2 s2 hD h2 => ?_
  · cases e
    refine ⟨_, rfl, _, rfl, dA, _, rfl, dgetR (.inl (s _ _ (by rw [upd_ne nAE]; exact a2))) (arr_rep m.pi) rfl, ?_⟩
    rw [Option.isSome_map]; exact q'
  obtain ⟨_, nDE⟩ := lock_none e2 hD
  have s2' := lock_back e2 s2
  refine ⟨s2 _ _ upd_same, D, ((arr n g).map (·.1)).map fun x => (f x).isSome, rfl, SqL.of ?_, ?_⟩
  · rw [upd_ne nDE, h2, List.map_map, List.filterMap_eq_map', List.map_map, List.map_map]; rfl
  have el : (((arr n g).map (·.1)).map fun x => (f x).isSome).all id = lkB n f g := by
    rw [List.map_map, List.all_map]; rfl
  rw [el]
  generalize upd H2 dE (.dK (dk (arr n g))) = H3 at s2'
  have s3 := sT.trans s2'
  refine ⟨_, rfl, ?_⟩
  cases eb : lkB n f g with
  | false => exact iteT (q0 eb H3 s3)
  | true =>
    refine iteF ?_
    have m3 := m.same s3
    refine ⟨_, rfl, p, dx, _, rfl, s3 _ _ h1, p, n, f, rfl, m3, dE, .dK (dk (arr n g)), s2' _ _ e2, True.intro, fun od2 => ⟨_, rfl, dE, od2, _, rfl, upd_same, ?_⟩⟩
    have R := rep_link m.pi m'.pi
    refine dc_items upd_same (by intros; rfl) (fun p => ((f p.1).map fun y => (y, p.2)).map fun r => (r.1, nv r.2)) (by rw [iv_fm_keys (F := fun p : Nat × Nat => (f p.1).map fun y => (y, p.2))]; exact R.nd) (by omega) (fun x y H' hm s Q' q' => ?_) (fun x y x' v H' hm e s Q' q' => ?_) (fun x y x' v H' hm e s Q' q' => ?_) fun D2 H4 s4 hD2 h4 => ?_
    · have : (f x).isSome = true := (lkB_iff m'.pi).mp eb x y (arr_mem.mp hm).2
      rw [Option.isSome_map, Option.isSome_map, this] at q'
      exact q'
    · obtain ⟨⟨a, b⟩, e1, e2⟩ := Option.map_eq_some_iff.mp e
      cases e2
      obtain ⟨z, hz, e3⟩ := Option.map_eq_some_iff.mp e1
      cases e3
      exact ⟨_, rfl, _, rfl, dA, _, rfl, dgetR (.inl (s _ _ (by rw [upd_ne nAE]; exact s2' _ _ a2))) (arr_rep m.pi) (by rw [hz]; rfl), q'⟩
    · obtain ⟨⟨a, b⟩, e1, e2⟩ := Option.map_eq_some_iff.mp e
      cases e2
      obtain ⟨z, hz, e3⟩ := Option.map_eq_some_iff.mp e1
      cases e3
      exact ⟨_, rfl, q'⟩
    · obtain ⟨_, nD2⟩ := lock_none (s2' _ _ e2) hD2
      have s4' := s3.trans (lock_back (s2' _ _ e2) s4)
      rw [iv_fm (F := fun p : Nat × Nat => (f p.1).map fun y => (y, p.2))] at h4
      refine ⟨s4 _ _ upd_same, ?_⟩
      exact mk_map (by rw [upd_ne nD2]; exact h4) R (linkF_pi m.pi m'.pi) m.n1 m.n2 fun x H5 hx s5 k => q1 eb x H5 (s4'.trans s5) k
def sp_parts_between (K : PySem.W.Frag) : Sp := fun vs H Q _ => ∃ p r n f g, vs = [.ref p, .ref r] ∧ MapAt K H p n f ∧ MapAt K H r n g ∧ (lkB n f g = false → ∀ H', Same H H' → Q .non H') ∧ (lkB n f g = true → ∀ a H', Same H H' → RowsAt H' a (prts n f g) → Q (.ref a) H')
theorem ok_parts_between (T : Txt K mg base) : Okd P w K mg base 7 (a_parts_between K) (sp_parts_between K) := by
  refine okd (d := d_parts_between) T 68 rfl rfl sc_parts_between (fun _ _ _ _ _ _ us hl => match us, hl with | [_, _], _ => rfl) (fun vs H Q E h => ?_) (fun cdv A outer s H vs Q E hr h => ?_)
  · obtain ⟨p, r, n, f, g, rfl, _⟩ := h; rfl
  obtain ⟨p, r, n, f, g, rfl, m, m', q0, q1⟩ := h
  refine ⟨_, (pss_cons (ps_expr (pe_cD (ok_check_maps T) (hr.mono (by decide)) T.g_check_maps (pa_cons (pv 0) (pa_cons (pv 1) pa_nil))))
      (pss_cons (ps_set (i := 2) sc_parts_between.nd rfl (Or.inl rfl) (pe_cD (ok_link_of T) (hr.mono (by decide)) T.g_link_of (pa_cons (pv 0) (pa_cons (pv 1) pa_nil))))
      (pss_cons (ps_if (pt_cmp (pc_isN (pv 2)) rfl) (pss_one (ps_ret pe_non)) pss_nil)
      (pss_cons (ps_asg (pe_cD (ok_parts_of T) (hr.mono (by decide)) T.g_parts_of (pa_cons (pv 2) pa_nil)) (pg_tup rfl (pgs_cons (pg_name (i := 3) sc_parts_between.nd rfl (Or.inl rfl)) (pgs_cons (pg_name (i := 4) sc_parts_between.nd rfl (Or.inl rfl)) pgs_nil))))
      (pss_one (ps_ret (pe_op op_cat (pv 3) (pv 4)))))))), ?_⟩
  refine ⟨_, rfl, _, rfl, p, r, n, f, g, rfl, m, m', ?_⟩
  refine ⟨_, rfl, _, rfl, p, r, n, f, g, rfl, m, m', fun eb H1 s1 => ?_, fun eb x H1 s1 k1 => ?_⟩
  · exact ⟨_, rfl, true, rfl, iteT (q0 eb H1 s1)⟩
  · refine ⟨_, rfl, false, rfl, iteF ?_⟩
    refine ⟨_, rfl, x, n, _, rfl, k1, fun t ac ah H2 s2 ht rc rh => ?_⟩
    obtain ⟨c1, c2⟩ := cys_few k1.pi
    have n2 := m.n2
    refine ⟨t, _, rfl, SqT.of ht, rfl, _, _, rfl, _, _, rfl, rfl, ?_⟩
    obtain ⟨qc, ec, hc, kc⟩ := rc
    obtain ⟨qh, eh, hh, kh⟩ := rh
    have lq : qc.length ≤ 12 := by have := congrArg List.length ec; rw [List.length_map] at this; omega
    have lq' : qh.length ≤ 12 := by have := congrArg List.length eh; rw [List.length_map] at this; omega
    refine ⟨_, rfl, _, rfl, ac, ah, _, _, rfl, rfl, hc, hh, by rw [List.length_map, List.length_map]; exact Nat.le_of_lt (small12 (by omega)), fun a ha => ?_⟩
    have sa := same_new (o := .lst (qc.map (fun q => V.ref q.1) ++ qh.map fun q => V.ref q.1)) (Same.refl H2) ha
    refine q1 eb a _ (s1.trans (s2.trans sa)) ⟨qc ++ qh, ?_, ?_, fun q hq => ?_⟩
    · rw [List.map_append, ec, eh]; rfl
    · rw [upd_same, List.map_append]
    · rcases List.mem_append.mp hq with h | h
      · exact sa _ _ (kc q h)
      · exact sa _ _ (kh q h)
theorem prts_few {n : Nat} {f g : PF} (hf : PI n f) (hg : PI n g) : (prts n f g).length ≤ n := by
  have h1 := length_le_sum (pl_pos hf hg)
  rw [pl_sum hf hg] at h1
  unfold pl at h1
  rwa [List.length_map] at h1
theorem RowsAt.len {H : Hp} {a : Addr} {xss : List (List Nat)} (r : RowsAt H a xss) : ∃ ys, H a = some (.lst ys) ∧ ys.length = xss.length := by
  obtain ⟨qs, e, h, _⟩ := r
  exact ⟨_, h, by rw [← e, List.length_map, List.length_map]⟩
def sp_distance (K : PySem.W.Frag) : Sp := fun vs H Q _ => ∃ p r n f g, vs = [.ref p, .ref r] ∧ MapAt K H p n f ∧ MapAt K H r n g ∧ (lkB n f g = false → ∀ H', Same H H' → Q .non H') ∧ (lkB n f g = true → ∀ H', Same H H' → Q (nv (dist n f g)) H')
theorem ok_distance (T : Txt K mg base) : Okd P w K mg base 8 (a_distance K) (sp_distance K) := by
  refine okd (d := d_distance) T 69 rfl rfl sc_distance (fun _ _ _ _ _ _ us hl => match us, hl with | [_, _], _ => rfl) (fun vs H Q E h => ?_) (fun cdv A outer s H vs Q E hr h => ?_)
  · obtain ⟨p, r, n, f, g, rfl, _⟩ := h; rfl
  obtain ⟨p, r, n, f, g, rfl, m, m', q0, q1⟩ := h
  obtain ⟨dx, d, h1, h2⟩ := m.ob
  obtain ⟨dx', d', h1', h2'⟩ := m'.ob
  refine ⟨_, (pss_cons (ps_set (i := 2) sc_distance.nd rfl (Or.inl rfl) (pe_cD (ok_parts_between T) (hr.mono (by decide)) T.g_parts_between (pa_cons (pv 0) (pa_cons (pv 1) pa_nil))))
      (pss_one (ps_ret (pe_ifExp (pt_cmp (pc_isN (pv 2)) rfl) pe_non (pe_op op_sub (pe_op op_add (pe_op op_sub (pe_callB (len_oD (ok_Map_len T) (hr.mono (by decide)) T.m_Map_len) rfl T.f_len (by decide +kernel) (pa_cons (pv 0) pa_nil)) (pe_callB (len_oD (ok_Map_len T) (hr.mono (by decide)) T.m_Map_len) rfl T.f_len (by decide +kernel) (pa_cons (pv 1) pa_nil))) (pe_prD (ok_Map_size T) (hr.mono (by decide)) T.cl_Map T.p_Map_size (pv 0))) (pe_callB call_len_seq rfl T.f_len (by decide +kernel) (pa_cons (pv 2) pa_nil))))))), ?_⟩
  refine ⟨_, rfl, _, rfl, p, r, n, f, g, rfl, m, m', fun eb H1 s1 => ?_, fun eb a H1 s1 k1 => ?_⟩
  · exact ⟨_, rfl, true, rfl, iteT (q0 eb H1 s1)⟩
  · have m1 := m.same s1
    have m1' := m'.same s1
    have a1 := arr_len n f
    have a2 := arr_len n g
    have a3 := lk_len m'.pi eb
    have a4 := prts_few m.pi m'.pi
    have n2 := m.n2
    obtain ⟨ys, hy, ly⟩ := k1.len
    refine ⟨_, rfl, false, rfl, iteF ?_⟩
    refine ⟨_, rfl, p, dx, _, rfl, s1 _ _ h1, p, n, f, rfl, m1, _, rfl, by omega, by omega, _, rfl, r, dx', _, rfl, s1 _ _ h1', r, n, g, rfl, m1', _, rfl, by omega, by omega, _, _, rfl, rfl, _, rfl, p, dx, _, rfl, s1 _ _ h1, p, n, f, rfl, m1, _, _, rfl, rfl, _, rfl, a, ys, rfl, .inl (SqL.of hy), _, _, rfl, rfl, ?_⟩
    have e : ((arr n f).length : Int) - ((arr n g).length : Int) + (n : Int) - (ys.length : Int) = ((dist n f g : Nat) : Int) := by
      unfold dist
      rw [ly]
      omega
    show Q (V.int (((arr n f).length : Int) - ((arr n g).length : Int) + (n : Int) - (ys.length : Int))) H1
    rw [e]
    exact q1 eb H1 s1
def sp_forgotten (K : PySem.W.Frag) : Sp := fun vs H Q _ => ∃ p r n f g, vs = [.ref p, .ref r] ∧ MapAt K H p n f ∧ MapAt K H r n g ∧ ∀ a H', H a = none → Same H H' → StepsAt H' a (forg n f g) → Q (.ref a) H'
theorem ok_forgotten (T : Txt K mg base) : Okd P w K mg base 3 (a_forgotten K) (sp_forgotten K) := by
  refine okd (d := d_forgotten) T 70 rfl rfl sc_forgotten (fun _ _ _ _ _ _ us hl => match us, hl with | [_, _], _ => rfl) (fun vs H Q E h => ?_) (fun cdv A outer s H vs Q E hr h => ?_)
  · obtain ⟨p, r, n, f, g, rfl, _⟩ := h; rfl
  obtain ⟨p, r, n, f, g, rfl, m, m', q⟩ := h
  obtain ⟨dx, d, h1, h2⟩ := m.ob
  obtain ⟨dx', d', h1', h2'⟩ := m'.ob
  refine ⟨_, (pss_cons (ps_set (i := 2) sc_forgotten.nd rfl (Or.inr rfl) (pe_prD (ok_Map_arrows T) (hr.mono (by decide)) T.cl_Map T.p_Map_arrows (pv 1)))
      (pss_one (ps_ret (pe_lc (own := [("source", 3)]) rfl sc_forgotten.nd (pi_keys (pe_lk (pe_prD (ok_Map_arrows T) (hr.mono (by decide)) T.cl_Map T.p_Map_arrows (pv 0)))) (blkOk_by (N := N_forgotten) (sc := defScope s_forgotten) (by decide +kernel)) (fun _ _ _ _ _ => (pg_name (i := 3) sc_forgotten.nd rfl (Or.inl rfl))) (fun _ _ _ _ _ => (pts_one (pt_cmp (pc_dnotin (hu_of hr) (pv 3) (pv 2))))) (fun _ _ _ _ _ => (pe_tup (pa_cons pe_str (pa_cons (pv 3) pa_nil)))))))), ?_⟩
  refine ⟨_, rfl, r, dx', _, rfl, h1', r, n, g, rfl, m', fun dE hdE => ?_⟩
  have sE := same_new (o := .dK (dk (arr n g))) (Same.refl H) hdE
  refine ⟨_, rfl, p, dx, _, rfl, sE _ _ h1, p, n, f, rfl, m.same sE, fun dA hdA => ⟨dA, _, rfl, upd_same, True.intro, fun od => ?_⟩⟩
  refine ⟨dA, od, rfl, .inl ⟨_, upd_same, ?_⟩⟩
  have s1 : Same H (upd (upd (upd H dE (.dK (dk (arr n g)))) dA (.dK (dk (arr n f)))) dA (.frz od (.dK (dk (arr n f))))) := fun b o e => by
    have h := sE b o e
    have nb := ne_of_none h hdA
    rw [upd_ne nb, upd_ne nb]; exact h
  have hE : (upd (upd (upd H dE (.dK (dk (arr n g)))) dA (.dK (dk (arr n f)))) dA (.frz od (.dK (dk (arr n f))))) dE = some (.dK (dk (arr n g))) := by
    have nb := ne_of_none upd_same hdA
    rw [upd_ne nb, upd_ne nb, upd_same]
  generalize hks : (arr n f).map (·.1) = ks
  have kl : ks.length ≤ 12 := by rw [← hks, List.length_map]; exact m.small
  have w := walk_liK (d := dA) (o := od) (ps := arr n f)
  rw [hks] at w
  have gt : ∀ i, i < ks.length → ∃ x, ks[i]? = some x ∧ (li ks).getD i .non = nv x := fun i hi => ⟨_, List.getElem?_eq_getElem hi, by rw [List.getD_eq_getElem?_getD, li_get (List.getElem?_eq_getElem hi)]; rfl⟩
  refine lc_mk w (fun H' s => s _ _ upd_same) (bd_one (by intros; rfl)) (fun i => (ks[i]?).any fun x => (g x).isNone) (fun i v H => ∃ x, ks[i]? = some x ∧ StpV (.fg x) v H) (by omega)
    (fun i v H H' e ⟨x, h1, h2⟩ => ⟨x, h1, h2.mono e⟩) (fun i v H D xs ys hD ⟨x, h1, h2⟩ => ⟨x, h1, h2.st hD⟩) (fun i H' hi s Q' q' => ?_) (fun i H' hi _ s R hR => ?_) fun D H4 ws s4 hD h4 e4 r4 => ?_
  · obtain ⟨x, ex, ev⟩ := gt i hi
    rw [ev]
    rw [ex] at q'
    refine ⟨_, rfl, _, rfl, dE, _, rfl, dgetR (.inl (s _ _ hE)) (arr_rep m'.pi) rfl, _, rfl, ?_⟩
    rw [Option.isSome_map]
    cases e : g x with
    | none => simpa [e] using q'
    | some y => simpa [e] using q'
  · obtain ⟨x, ex, ev⟩ := gt i hi
    rw [ev]
    exact ⟨_, rfl, by show 2 ≤ sizeLine; decide, fun t ht => hR _ _ (same_new (Same.refl _) ht) ⟨x, ex, t, rfl, upd_same⟩⟩
  · have hD0 : H D = none := s1.free hD
    refine q D H4 hD0 (s1.trans s4) ?_
    refine ⟨ws.map fun w => (.fg ((ks[w.1]?).getD 0), w.2), ?_, ?_, fun w hw => ?_⟩
    · rw [List.map_map]
      have : ws.map ((·.1) ∘ fun w => (Stp.fg ((ks[w.1]?).getD 0), w.2)) = (ws.map (·.1)).map fun i => Stp.fg ((ks[i]?).getD 0) := by rw [List.map_map]; rfl
      rw [this, e4]
      unfold forg
      rw [hks]
      rw [← range_get (fun x => if (g x).isSome then none else some (Stp.fg x)) ks, ← List.filterMap_eq_map', List.filterMap_filter]
      refine filterMap_congr' fun i hi => ?_
      obtain ⟨x, ex, _⟩ := gt i (List.mem_range.mp hi)
      rw [ex]
      show (if (g x).isNone = true then some (Stp.fg x) else none) = if (g x).isSome = true then none else some (Stp.fg x)
      cases g x <;> rfl
    · rw [h4, List.map_map]; rfl
    · obtain ⟨w0, hw0, rfl⟩ := List.mem_map.mp hw
      obtain ⟨x, ex, hv⟩ := r4 w0 hw0
      show StpV (.fg ((ks[w0.1]?).getD 0)) w0.2 H4
      rw [ex]; exact hv
def sp_swap_of : Sp := fun vs H Q _ => ∃ a b : Nat, vs = [nv a, nv b] ∧ ∀ v H', Same H H' → StpV (swOf a b) v H' → Q v H'
theorem ok_swap_of (T : Txt K mg base) : Okd P w K mg base 1 (a_swap_of K) sp_swap_of := by
  refine okd (d := d_swap_of) T 71 rfl rfl sc_swap_of (fun _ _ _ _ _ _ us hl => match us, hl with | [_, _], _ => rfl) (fun vs H Q E h => ?_) (fun cdv A outer s H vs Q E hr h => ?_)
  · obtain ⟨a, b, rfl, _⟩ := h; rfl
  obtain ⟨a, b, rfl, q⟩ := h
  refine ⟨_, (pss_one (ps_ret (pe_ifExp (pt_cmpR op_lt (pv 0) (pv 1) (nomark _)) (pe_tup (pa_cons pe_str (pa_cons (pv 0) (pa_cons (pv 1) pa_nil)))) (pe_tup (pa_cons pe_str (pa_cons (pv 1) (pa_cons (pv 0) pa_nil))))))), ?_⟩
  refine ⟨_, rfl, _, rfl, _, _, rfl, rfl, _, rfl, ?_⟩
  by_cases e : a < b
  · have e1 : swOf a b = .sw a b := if_pos e
    refine ite2 (fun _ => ⟨_, rfl, _, rfl, by show 3 ≤ sizeLine; decide, fun t ht => q _ _ (same_new (Same.refl _) ht) ⟨t, rfl, by rw [e1]; exact upd_same⟩⟩) fun h => absurd (decide_eq_true (by omega)) h
  · have e1 : swOf a b = .sw b a := if_neg e
    refine ite2 (fun h => absurd (of_decide_eq_true h) (by omega)) fun _ => ⟨_, rfl, _, rfl, by show 3 ≤ sizeLine; decide, fun t ht => q _ _ (same_new (Same.refl _) ht) ⟨t, rfl, by rw [e1]; exact upd_same⟩⟩
end
end K35
end

section
set_option Elab.async false
set_option linter.all false
set_option maxRecDepth 100000
set_option maxHeartbeats 4000000
/-! W10: the steps between maps, their count, their application. -/
namespace K35
open PySem PySem.Spec PyProof.Rows L2 CM
theorem filter_yes {α : Type} (l : List α) : l.filter (fun _ => true) = l := List.filter_eq_self.mpr fun _ _ => rfl
theorem walk_liT {K : PySem.W.Frag} {a : Addr} {ns : List Nat} : Walk (Itt K a) ns.length (fun H => SqT K H a (li ns)) (YAt (li ns)) := by
  have w := walk_tup (K := K) (a := a) (xs := li ns)
  rwa [li_length] at w
section
variable {P : Program} {w : World} {K : PySem.W.Frag} {mg : Str → Option Value} {base : Heap}
theorem prts_pos {n : Nat} {f g : PF} (hf : PI n f) (hg : PI n g) {r : List Nat} (h : r ∈ prts n f g) : ∃ r0 rest, r = r0 :: rest := by
  obtain ⟨x, hx, e⟩ := prts_row hf hg h
  have := (row_ok (linkF_pi hf hg) hx).pos
  rw [← e] at this
  cases r with
  | nil => simp at this
  | cons a r => exact ⟨a, r, rfl⟩
theorem prts_lt {n : Nat} {f g : PF} (hf : PI n f) (hg : PI n g) {r : List Nat} (h : r ∈ prts n f g) : r.length ≤ n ∧ ∀ x ∈ r, x < n := by
  obtain ⟨x, hx, e⟩ := prts_row hf hg h
  have ro := row_ok (linkF_pi hf hg) hx
  rw [← e] at ro
  exact ⟨ro.small (linkF_pi hf hg) hx, ro.lt (linkF_pi hf hg) hx⟩
def sp_steps (K : PySem.W.Frag) : Sp := fun vs H Q _ => ∃ p r n f g, vs = [.ref p, .ref r] ∧ MapAt K H p n f ∧ MapAt K H r n g ∧ (lkB n f g = false → ∀ H', Same H H' → Q .non H') ∧ (lkB n f g = true → ∀ a H', Same H H' → StepsAt H' a (stL n f g) → Q (.ref a) H')
theorem ok_steps (T : Txt K mg base) : Okd P w K mg base 8 (a_steps K) (sp_steps K) := by
  refine okd (d := d_steps) T 72 rfl rfl sc_steps (fun _ _ _ _ _ _ us hl => match us, hl with | [_, _], _ => rfl) (fun vs H Q E h => ?_) (fun cdv A outer s H vs Q E hr h => ?_)
  · obtain ⟨p, r, n, f, g, rfl, _⟩ := h; rfl
  obtain ⟨p, r, n, f, g, rfl, m, m', q0, q1⟩ := h
  refine ⟨_, (pss_cons (ps_set (i := 2) sc_steps.nd rfl (Or.inl rfl) (pe_cD (ok_parts_between T) (hr.mono (by decide)) T.g_parts_between (pa_cons (pv 0) (pa_cons (pv 1) pa_nil))))
      (pss_cons (ps_if (pt_cmp (pc_isN (pv 2)) rfl) (pss_one (ps_ret pe_non)) pss_nil)
      (pss_cons (ps_set (i := 3) sc_steps.nd rfl (Or.inl rfl) (pe_lst pa_nil))
      (pss_cons (ps_for PassesOwn.never rfl (pi_list (pv 2)) (pg_name (i := 4) sc_steps.nd rfl (Or.inr rfl))
      (pss_one (ps_expr (pe_bm PySem.F.plainAttrs_list PySem.F.slot_list_extend PySem.F.type_list_extend mt_extend (pv 3) (pa_cons (pe_lc (own := [("element", 5)]) rfl sc_steps.nd (pi_list (pe_slice sl_list (pv 4) (po_some pe_int) po_none)) (blkOk_by (N := N_steps) (sc := defScope s_steps) (by decide +kernel)) (fun _ _ _ _ _ => (pg_name (i := 5) sc_steps.nd rfl (Or.inl rfl))) (fun _ _ _ _ _ => pts_nil) (fun _ _ _ _ _ => (pe_cD (ok_swap_of T) (hr.mono (by decide)) T.g_swap_of (pa_cons (pe_ix (ixK_list (K := K) rfl) (pv 4) pe_int (fun _ _ => rfl)) (pa_cons (pv 5) pa_nil))))) pa_nil)))))
      (pss_one (ps_ret (pe_op op_cat (pv 3) (pe_cD (ok_forgotten T) (hr.mono (by decide)) T.g_forgotten (pa_cons (pv 0) (pa_cons (pv 1) pa_nil)))))))))), ?_⟩
  refine ⟨_, rfl, _, rfl, p, r, n, f, g, rfl, m, m', fun eb H1 s1 => ?_, fun eb aP H1 s1 k1 => ?_⟩
  · exact ⟨_, rfl, true, rfl, iteT (q0 eb H1 s1)⟩
  · have n2 := m.n2
    have fl := flat_len (prts n f g)
    have ts := fun i => take_sum (prts n f g) i
    have ps := pl_sum m.pi m'.pi
    unfold pl at ps
    rw [ps] at fl ts
    obtain ⟨qs, eq, hP, hq⟩ := k1
    have lq : qs.length ≤ 12 := by have := congrArg List.length eq; rw [List.length_map] at this; have := prts_few m.pi m'.pi; omega
    refine ⟨_, rfl, false, rfl, iteF ?_⟩
    refine ⟨by show 0 ≤ sizeLine; decide, fun aF hF => ?_⟩
    have sF := same_new (o := .lst []) (Same.refl H1) hF
    refine ⟨_, rfl, aP, rfl, ⟨_, SqL.of (sF _ _ hP)⟩, ?_⟩
    have w := walk_list (K := K) (a := aP) (xs := qs.map fun q => V.ref q.1)
    rw [List.length_map] at w
    refine for_it w (fun i σ H' => ∃ o4, σ = [some (.ref p), some (.ref r), some (.ref aP), some (.ref aF), o4, none] ∧ Same H1 H' ∧ StepsAt H' aF (((prts n f g).take i).flatMap rowSt)) ⟨none, rfl, sF, [], rfl, upd_same, fun _ h => (by cases h)⟩
      (fun i σ H' _ ⟨_, _, s, _⟩ => SqL.of (s _ _ hP)) ?_ ?_
    · rintro i v σ H' H'' hi ⟨o4, rfl, s, ws, ews, hws, kws⟩ ⟨rfl, ev⟩
      have e := List.getElem?_eq_getElem hi
      have em := List.getElem_mem hi
      rw [List.getElem?_map, e] at ev
      cases ev
      have hl := s _ _ (hq _ em)
      have ep : (prts n f g)[i]? = some qs[i].2 := by rw [← eq, List.getElem?_map, e]; rfl
      generalize qs[i] = pr at *
      obtain ⟨c, xs⟩ := pr
      have ep : (prts n f g)[i]? = some xs := ep
      have hl : H'' c = some (.lst (li xs)) := hl
      obtain ⟨r0, rest, rfl⟩ := prts_pos m.pi m'.pi (List.mem_of_getElem? ep)
      have rl := (prts_lt m.pi m'.pi (List.mem_of_getElem? ep)).1
      rw [List.length_cons] at rl
      refine ⟨_, rfl, .inl ⟨rfl, _, SqL.of hws⟩, ?_⟩
      refine ⟨_, rfl, 1, rfl, c, _, rfl, SqL.of hl, fun aC hC => ⟨aC, rfl, ⟨_, SqL.of upd_same⟩, ?_⟩⟩
      have ec : cutV (li (r0 :: rest)) (some 1) none = li rest := cut_from _ 1
      rw [ec]
      have sC := same_new (o := .lst (li rest)) (Same.refl H'') hC
      have gt : ∀ j, j < rest.length → ∃ x, rest[j]? = some x ∧ (li rest).getD j .non = nv x := fun j hj => ⟨_, List.getElem?_eq_getElem hj, by rw [List.getD_eq_getElem?_getD, li_get (List.getElem?_eq_getElem hj)]; rfl⟩
      refine lc_mk (walk_li (ns := rest)) (fun H' s => SqL.of (s _ _ upd_same)) (bd_one (by intros; rfl)) (fun j => true) (fun j v H => ∃ x, rest[j]? = some x ∧ StpV (swOf r0 x) v H) (by omega)
        (fun i v H H' e ⟨x, h1, h2⟩ => ⟨x, h1, h2.mono e⟩) (fun i v H D xs ys hD ⟨x, h1, h2⟩ => ⟨x, h1, h2.st hD⟩) (fun j H' hj s => Et.yes) (fun j H' hj _ s R hR => ?_) fun D H4 ws4 s4 hD h4 e4 r4 => ?_
      · obtain ⟨x, ex, ev⟩ := gt j hj
        rw [ev]
        exact ⟨_, rfl, c, _, 0, _, rfl, rfl, SqL.of (s _ _ (sC _ _ hl)), atI_li (i := 0) (show (r0 :: rest)[0]? = some r0 from rfl), _, rfl, r0, x, rfl, fun v H2 s2 h2 => hR v H2 s2 ⟨x, ex, h2⟩⟩
      · have s4' := sC.trans s4
        have hF4 := s4' _ _ hws
        have l1 : ws.length ≤ 12 := by
          have h1 := congrArg List.length ews
          rw [List.length_map] at h1
          have h2 := flat_len ((prts n f g).take i)
          have h3 := ts i
          omega
        have l2 : ws4.length = rest.length := by
          have h1 := congrArg List.length e4
          rw [List.length_map, filter_yes, List.length_range] at h1
          exact h1
        refine ⟨aF, D, _, _, rfl, rfl, hF4, h4, by rw [List.length_map, List.length_map]; exact Nat.le_of_lt (small12 (by omega)), ?_⟩
        refine ⟨_, rfl, fun b o eb => ?_, ws ++ ws4.map (fun w => (swOf r0 ((rest[w.1]?).getD 0), w.2)), ?_, ?_, fun w hw => ?_⟩
        · rw [upd_ne (ne_of_none eb hF)]
          exact s4' _ _ (s _ _ eb)
        · rw [List.map_append, ews, List.take_succ, ep, List.flatMap_append]
          congr 1
          show _ = [r0 :: rest].flatMap rowSt
          rw [List.map_map]
          have : ws4.map ((·.1) ∘ fun w => (swOf r0 ((rest[w.1]?).getD 0), w.2)) = (ws4.map (·.1)).map fun j => swOf r0 ((rest[j]?).getD 0) := by rw [List.map_map]; rfl
          rw [this, e4, filter_yes]
          show _ = rest.map (swOf r0) ++ []
          rw [List.append_nil]
          have hg := range_get (fun x => some (swOf r0 x)) rest
          rw [List.filterMap_eq_map'] at hg
          rw [← hg, ← List.filterMap_eq_map']
          refine filterMap_congr' fun j hj => ?_
          obtain ⟨x, ex, _⟩ := gt j (List.mem_range.mp hj)
          rw [ex]; rfl
        · rw [upd_same, List.map_append, List.map_map]; rfl
        · rcases List.mem_append.mp hw with h | h
          · exact ((kws w h).mono s4').st hF4
          · obtain ⟨w0, hw0, rfl⟩ := List.mem_map.mp h
            obtain ⟨x, ex, hv⟩ := r4 w0 hw0
            show StpV (swOf r0 ((rest[w0.1]?).getD 0)) w0.2 _
            rw [ex]
            exact hv.st hF4
    · rintro σ H4 ⟨o4, rfl, s4, ws, ews, hws, kws⟩
      have et : (prts n f g).take qs.length = prts n f g := by rw [← eq, List.take_of_length_le (by rw [List.length_map]; exact Nat.le_refl _)]
      rw [et] at ews
      have s4' := s1.trans s4
      refine ⟨_, rfl, _, rfl, _, rfl, p, r, n, f, g, rfl, m.same s4', m'.same s4', fun aG H5 hG s5 kG => ?_⟩
      obtain ⟨ws5, e5, h5, k5⟩ := kG
      have l1 : ws.length ≤ 12 := by have h1 := congrArg List.length ews; rw [List.length_map] at h1; omega
      have l2 : ws5.length ≤ 12 := by
        have h1 := congrArg List.length e5
        rw [List.length_map] at h1
        unfold forg at h1
        have h2 := List.length_filterMap_le (fun x => if (g x).isSome then none else some (Stp.fg x)) ((arr n f).map (·.1))
        rw [List.length_map] at h2
        have := m.small
        omega
      refine ⟨aF, aG, _, _, rfl, rfl, s5 _ _ hws, h5, by rw [List.length_map, List.length_map]; exact Nat.le_of_lt (small12 (by omega)), fun a ha => ?_⟩
      have sa := same_new (o := .lst (ws.map (·.2) ++ ws5.map (·.2))) (Same.refl H5) ha
      refine q1 eb a _ (s4'.trans (s5.trans sa)) ⟨ws ++ ws5, ?_, ?_, fun w hw => ?_⟩
      · rw [List.map_append, ews, e5]; rfl
      · rw [upd_same, List.map_append]
      · rcases List.mem_append.mp hw with h | h
        · exact (kws w h).mono (s5.trans sa)
        · exact (k5 w h).mono sa
def sp_count_shortest (K : PySem.W.Frag) : Sp := fun vs H Q _ => ∃ p r n f g, vs = [.ref p, .ref r] ∧ MapAt K H p n f ∧ MapAt K H r n g ∧ (lkB n f g = false → ∀ H', Same H H' → Q (nv 0) H') ∧ (lkB n f g = true → ∀ H', Same H H' → Q (nv (csh (dist n f g) (pl n f g))) H')
theorem csh_small : ∀ k, k ≤ 12 → k ^ (k - 2) < 2 ^ 60 ∧ fac (k - 1) < 2 ^ 28 := by decide +kernel
theorem ok_count_shortest (T : Txt K mg base) : Okd P w K mg base 9 (a_count_shortest K) (sp_count_shortest K) := by
  refine okd (d := d_count_shortest) T 74 rfl rfl sc_count_shortest (fun _ _ _ _ _ _ us hl => match us, hl with | [_, _], _ => rfl) (fun vs H Q E h => ?_) (fun cdv A outer s H vs Q E hr h => ?_)
  · obtain ⟨p, r, n, f, g, rfl, _⟩ := h; rfl
  obtain ⟨p, r, n, f, g, rfl, m, m', q0, q1⟩ := h
  refine ⟨_, (pss_cons (ps_set (i := 2) sc_count_shortest.nd rfl (Or.inl rfl) (pe_cD (ok_parts_between T) (hr.mono (by decide)) T.g_parts_between (pa_cons (pv 0) (pa_cons (pv 1) pa_nil))))
      (pss_cons (ps_if (pt_cmp (pc_isN (pv 2)) rfl) (pss_one (ps_ret pe_int)) pss_nil)
      (pss_cons (ps_set (i := 3) sc_count_shortest.nd rfl (Or.inl rfl) (pe_cD (ok_factorial T) (hr.mono (by decide)) T.g_factorial (pa_cons (pe_cD (ok_distance T) (hr.mono (by decide)) T.g_distance (pa_cons (pv 0) (pa_cons (pv 1) pa_nil))) pa_nil)))
      (pss_cons (ps_for PassesOwn.never rfl (pi_list (pv 2)) (pg_name (i := 4) sc_count_shortest.nd rfl (Or.inl rfl))
      (pss_one (ps_if (pt_cmpR op_gt (pe_callB call_len_seq rfl T.f_len (by decide +kernel) (pa_cons (pv 4) pa_nil)) pe_int (nomark _)) (pss_one (ps_set (i := 3) sc_count_shortest.nd rfl (Or.inl rfl) (pe_op op_fdiv (pe_op op_mul (pv 3) (pe_cD (ok_power_of T) (hr.mono (by decide)) T.g_power_of (pa_cons (pe_callB call_len_seq rfl T.f_len (by decide +kernel) (pa_cons (pv 4) pa_nil)) (pa_cons (pe_op op_sub (pe_callB call_len_seq rfl T.f_len (by decide +kernel) (pa_cons (pv 4) pa_nil)) pe_int) pa_nil)))) (pe_cD (ok_factorial T) (hr.mono (by decide)) T.g_factorial (pa_cons (pe_op op_sub (pe_callB call_len_seq rfl T.f_len (by decide +kernel) (pa_cons (pv 4) pa_nil)) pe_int) pa_nil))))) pss_nil)))
      (pss_one (ps_ret (pv 3))))))), ?_⟩
  refine ⟨_, rfl, _, rfl, p, r, n, f, g, rfl, m, m', fun eb H1 s1 => ?_, fun eb aP H1 s1 k1 => ?_⟩
  · exact ⟨_, rfl, true, rfl, iteT (q0 eb H1 s1)⟩
  · have n2 := m.n2
    obtain ⟨qs, eq, hP, hq⟩ := k1
    refine ⟨_, rfl, false, rfl, iteF ?_⟩
    refine ⟨_, rfl, _, rfl, p, r, n, f, g, rfl, m.same s1, m'.same s1, fun eb' => (by rw [eb] at eb'; cases eb'), fun _ H2 s2 => ⟨dist n f g, rfl, ?_, ?_⟩⟩
    · unfold dist
      have := arr_len n f
      omega
    refine ⟨_, rfl, aP, rfl, ⟨_, SqL.of (s2 _ _ hP)⟩, ?_⟩
    have w := walk_list (K := K) (a := aP) (xs := qs.map fun q => V.ref q.1)
    rw [List.length_map] at w
    refine for_it w (fun i σ H' => ∃ o4, σ = [some (.ref p), some (.ref r), some (.ref aP), some (nv (csh (dist n f g) ((pl n f g).take i))), o4] ∧ H' = H2) ⟨none, rfl, rfl⟩ (fun i σ H' _ ⟨_, _, e⟩ => by rw [e]; exact SqL.of (s2 _ _ hP)) ?_ ?_
    · rintro i v σ H' H'' hi ⟨o4, rfl, rfl⟩ ⟨rfl, ev⟩
      have e := List.getElem?_eq_getElem hi
      have em := List.getElem_mem hi
      rw [List.getElem?_map, e] at ev
      cases ev
      have hl := s2 _ _ (hq _ em)
      have ep : (prts n f g)[i]? = some qs[i].2 := by rw [← eq, List.getElem?_map, e]; rfl
      generalize qs[i] = pr at *
      obtain ⟨c, xs⟩ := pr
      have ep : (prts n f g)[i]? = some xs := ep
      have hl : H'' c = some (.lst (li xs)) := hl
      have rl := (prts_lt m.pi m'.pi (List.mem_of_getElem? ep)).1
      have el : (pl n f g)[i]? = some xs.length := by unfold pl; rw [List.getElem?_map, ep]; rfl
      have es : csh (dist n f g) ((pl n f g).take (i + 1)) = cshF (csh (dist n f g) ((pl n f g).take i)) xs.length := by
        unfold csh
        rw [List.take_succ, el, List.foldl_append]; rfl
      generalize csh (dist n f g) ((pl n f g).take i) = F at *
      have b := csh_small xs.length (by omega)
      refine ⟨_, rfl, c, _, rfl, .inl (SqL.of hl), _, _, rfl, rfl, _, rfl, ?_⟩
      by_cases h1 : 1 < xs.length
      · refine ite2 (fun _ => ?_) fun hx => absurd (decide_eq_true (by rw [li_length]; omega)) hx
        have e1 : [V.int ((li xs).length : Int), V.int (((li xs).length : Int) - 2)] = [nv xs.length, nv (xs.length - 2)] := by
          rw [li_length, show (xs.length : Int) - 2 = ((xs.length - 2 : Nat) : Int) by omega]
        have e2 : [V.int (((li xs).length : Int) - 1)] = [nv (xs.length - 1)] := by
          rw [li_length, show (xs.length : Int) - 1 = ((xs.length - 1 : Nat) : Int) by omega]
        have fp := fac_pos (xs.length - 1)
        refine ⟨_, rfl, _, rfl, c, _, rfl, .inl (SqL.of hl), _, rfl, c, _, rfl, .inl (SqL.of hl), _, _, rfl, rfl, xs.length, xs.length - 2, e1, by omega, by omega, _, _, rfl, rfl, .inr ⟨by omega, by omega⟩, _, rfl, c, _, rfl, .inl (SqL.of hl), _, _, rfl, rfl, xs.length - 1, e2, by omega, _, _, rfl, rfl, ⟨by omega, by omega⟩, some (.ref c), ?_, rfl⟩
        show [some (V.ref p), some (.ref r), some (.ref aP), some (V.int ((F : Int) * ((xs.length ^ (xs.length - 2) : Nat) : Int) / ((fac (xs.length - 1) : Nat) : Int))), some (.ref c)] = _
        rw [es, cshF, if_pos h1, ← Int.natCast_mul, ← Int.natCast_ediv]
      · refine ite2 (fun hx => absurd (of_decide_eq_true hx) (by rw [li_length]; omega)) fun _ => ?_
        refine ⟨some (.ref c), ?_, rfl⟩
        rw [es, cshF, if_neg h1]; rfl
    · rintro σ H' ⟨o4, rfl, rfl⟩
      have et : (pl n f g).take qs.length = pl n f g := by
        refine List.take_of_length_le ?_
        unfold pl
        rw [List.length_map, ← eq, List.length_map]; exact Nat.le_refl _
      rw [et]
      exact ⟨_, rfl, q1 eb H' (s1.trans s2)⟩
def argS : Stp → List Nat
  | .sw a b => [a, b]
  | .fg a => [a]
theorem argS_cut (s : Stp) : cutV (stv s) (some 1) none = li (argS s) := by
  cases s <;> exact cut_from _ 1
theorem str_dec : decide (V.str "forget" = V.str "swap") = false ∧ decide (V.str "swap" = V.str "forget") = false ∧ decide (V.str "swap" = V.str "swap") = true ∧ decide (V.str "forget" = V.str "forget") = true := by decide +kernel
def sp_is_step : Sp := fun vs H Q _ => ∃ (n : Nat) (t : Addr) (s : Stp), vs = [nv n, .ref t] ∧ H t = some (.tup (stv s)) ∧ s.ok n ∧ ∀ H', Same H H' → Q (.bl true) H'
theorem ok_is_step (T : Txt K mg base) : Okd P w K mg base 3 (a_is_step K) sp_is_step := by
  refine okd (d := d_is_step) T 63 rfl rfl sc_is_step (fun _ _ _ _ _ _ us hl => match us, hl with | [_, _], _ => rfl) (fun vs H Q E h => ?_) (fun cdv A outer s H vs Q E hr h => ?_)
  · obtain ⟨n, t, s, rfl, _⟩ := h; rfl
  obtain ⟨n, t, st, rfl, ht, ok, q⟩ := h
  refine ⟨_, (pss_cons (ps_if (PW.pt (pw_or (pt_not (pt_val (pe_callB call_isi rfl T.f_isinstance (by decide +kernel) (pa_cons (pv 1) (pa_cons (pe_bltn rfl T.f_tuple (by decide +kernel) (show RelV (.ty "tuple") _ from rfl)) pa_nil))))) (pw_or (pt_cmpR op_lt (pe_callB call_len_seq rfl T.f_len (by decide +kernel) (pa_cons (pv 1) pa_nil)) pe_int (nomark _)) (pw_or1 (pt_not (pt_val (pe_callB call_isi rfl T.f_isinstance (by decide +kernel) (pa_cons (pe_ix ix_tup (pv 1) pe_int (fun _ _ => rfl)) (pa_cons (pe_bltn rfl T.f_str (by decide +kernel) (show RelV (.ty "str") _ from rfl)) pa_nil))))))))) (pss_one (ps_ret pe_bl)) pss_nil)
      (pss_cons (ps_if (pt_not (pt_val (pe_callB (cr_all rfl) rfl T.f_all (by decide +kernel) (pa_cons (pe_lc (own := [("element", 2)]) rfl sc_is_step.nd (pi_tup (pe_slice sl_tup (pv 1) (po_some pe_int) po_none)) (blkOk_by (N := N_is_step) (sc := defScope s_is_step) (by decide +kernel)) (fun _ _ _ _ _ => (pg_name (i := 2) sc_is_step.nd rfl (Or.inl rfl))) (fun _ _ _ _ _ => pts_nil) (fun _ _ _ _ _ => (pe_cD (ok_in_range T) (hr.mono (by decide)) T.g_in_range (pa_cons (pv 2) (pa_cons pe_int (pa_cons (pe_op op_sub (pv 0) pe_int) pa_nil)))))) pa_nil)))) (pss_one (ps_ret pe_bl)) pss_nil)
      (pss_cons (ps_if (pt_cmpR op_eq (pe_ix ix_tup (pv 1) pe_int (fun _ _ => rfl)) pe_str (nomark _)) (pss_one (ps_ret (pe_and (pe_cmpR op_eq (pe_callB call_len_seq rfl T.f_len (by decide +kernel) (pa_cons (pv 1) pa_nil)) pe_int (nomark _)) (pe_one (pe_cmpR op_ne (pe_ix ix_tup (pv 1) pe_int (fun _ _ => rfl)) (pe_ix ix_tup (pv 1) pe_int (fun _ _ => rfl)) (nomark _)))))) pss_nil)
      (pss_one (ps_ret (pe_and (pe_cmpR op_eq (pe_ix ix_tup (pv 1) pe_int (fun _ _ => rfl)) pe_str (nomark _)) (pe_one (pe_cmpR op_eq (pe_callB call_len_seq rfl T.f_len (by decide +kernel) (pa_cons (pv 1) pa_nil)) pe_int (nomark _))))))))), ?_⟩
  have l2 : 2 ≤ (stv st).length := by cases st <;> simp [stv]
  have z0 : ∃ z, atI (stv st) 0 = some (V.str z) := by cases st <;> exact ⟨_, rfl⟩
  obtain ⟨z, hz⟩ := z0
  refine ⟨_, rfl, _, .ty "tuple", .type "tuple", .type "tuple", true, rfl, .ty "tuple", .base (.tup ht), kit_ty (by decide +kernel), true, rfl, iteF ?_⟩
  refine ⟨_, rfl, t, _, rfl, .inr (SqT.of ht), _, _, rfl, rfl, false, ?_, iteF ?_⟩
  · show V.bl (decide (((stv st).length : Int) < 2)) = _
    rw [decide_eq_false (by omega)]
  refine ⟨_, rfl, t, _, 0, _, rfl, rfl, SqT.of ht, hz, _, .ty "str", .type "str", .type "str", true, rfl, .ty "str", .base (.str z), kit_ty (by decide +kernel), true, rfl, iteF ?_⟩
  -- the numbers
  refine ⟨_, rfl, 1, rfl, t, _, rfl, SqT.of ht, ?_, fun aC hC => ⟨aC, rfl, ⟨_, SqT.of upd_same⟩, ?_⟩⟩
  · intro hcon
    have h1 : min 1 (stv st).length = 0 := (HT.sIx_nat _ 0 1).symm.trans hcon.1
    omega
  rw [argS_cut]
  have sC := same_new (o := .tup (li (argS st))) (Same.refl H) hC
  have lt : ∀ x ∈ argS st, x < n := by
    cases st with
    | sw a b =>
      intro x hx
      rcases List.mem_cons.mp hx with e | e
      · rw [e]; exact ok.1
      · rw [List.mem_singleton.mp e]; exact ok.2.1
    | fg a => intro x hx; rw [List.mem_singleton.mp hx]; exact ok
  have la : (argS st).length ≤ 2 := by cases st <;> simp [argS]
  refine lc_li walk_liT (fun H' s => SqT.of (s _ _ upd_same)) (by intros; rfl) (fun x => some (.bl true)) (by omega) (fun x H' hx s => Et.yes) (fun x v H' hx e s Q' q' => ?_) fun D H2 s2 hD h2 => ?_
  · cases e
    have hx' := lt x hx
    refine ⟨_, rfl, _, rfl, _, _, rfl, rfl, _, _, _, rfl, ?_⟩
    rw [decide_eq_true (show (0 : Int) ≤ x by omega), decide_eq_true (show (x : Int) ≤ n - 1 by omega)]
    exact q'
  refine ⟨D, (argS st).map fun _ => true, rfl, SqL.of ?_, _, rfl, ?_⟩
  · rw [h2, List.map_map, List.filterMap_eq_map']; rfl
  have : ((argS st).map fun _ => true).all id = true := by rw [List.all_map]; simp
  rw [this]
  refine iteF ?_
  have s2' := sC.trans s2
  have ht2 := s2' _ _ ht
  have q := q H2 s2'
  obtain ⟨d1, d2, d3, d4⟩ := str_dec
  cases st with
  | sw a b =>
    refine ⟨_, rfl, t, _, 0, _, rfl, rfl, SqT.of ht2, rfl, rfl, true, by rw [d3], iteT ?_⟩
    refine ⟨_, rfl, t, _, rfl, .inr (SqT.of ht2), rfl, true, rfl, iteT ?_⟩
    refine ⟨_, rfl, t, _, 1, _, rfl, rfl, SqT.of ht2, rfl, _, rfl, t, _, 2, _, rfl, rfl, SqT.of ht2, rfl, rfl, ?_⟩
    have : ¬ (nv a = nv b) := fun h => ok.2.2 (by have := V.int.inj h; omega)
    show Q (V.bl (!decide (nv a = nv b))) H2
    rw [decide_eq_false this]; exact q
  | fg a =>
    refine ⟨_, rfl, t, _, 0, _, rfl, rfl, SqT.of ht2, rfl, rfl, false, by rw [d1], iteF ?_⟩
    refine ⟨_, rfl, t, _, 0, _, rfl, rfl, SqT.of ht2, rfl, rfl, true, by rw [d4], iteT ?_⟩
    exact ⟨_, rfl, t, _, rfl, .inr (SqT.of ht2), rfl, q⟩
def sp_first_invalid : Sp := fun vs H Q _ => ∃ (n : Nat) (a : Addr) (ss : List Stp), vs = [nv n, .ref a] ∧ StepsAt H a ss ∧ (∀ s ∈ ss, s.ok n) ∧ ∀ H', Same H H' → Q .non H'
theorem ok_first_invalid (T : Txt K mg base) : Okd P w K mg base 4 (a_first_invalid K) sp_first_invalid := by
  refine okd (d := d_first_invalid) T 64 rfl rfl sc_first_invalid (fun _ _ _ _ _ _ us hl => match us, hl with | [_, _], _ => rfl) (fun vs H Q E h => ?_) (fun cdv A outer s H vs Q E hr h => ?_)
  · obtain ⟨n, a, ss, rfl, _⟩ := h; rfl
  obtain ⟨n, a, ss, rfl, ⟨ws, ews, hws, kws⟩, ok, q⟩ := h
  refine ⟨_, (pss_cons (ps_if (pt_not (pt_val (pe_callB call_isi rfl T.f_isinstance (by decide +kernel) (pa_cons (pv 1) (pa_cons (pe_bltn rfl T.f_list (by decide +kernel) (show RelV (.ty "list") _ from rfl)) pa_nil))))) (pss_one (ps_ret (pe_tup (pa_cons pe_non pa_nil)))) pss_nil)
      (pss_cons (ps_for PassesOwn.never rfl (pi_enum rfl T.f_enumerate (pa_cons (pv 1) pa_nil)) (pg_tup rfl (pgs_cons (pg_name (i := 2) sc_first_invalid.nd rfl (Or.inl rfl)) (pgs_cons (pg_name (i := 3) sc_first_invalid.nd rfl (Or.inl rfl)) pgs_nil)))
      (pss_one (ps_if (pt_not (pt_val (pe_cD (ok_is_step T) (hr.mono (by decide)) T.g_is_step (pa_cons (pv 0) (pa_cons (pv 3) pa_nil))))) (pss_one (ps_ret (pe_tup (pa_cons (pv 2) pa_nil)))) pss_nil)))
      (pss_one (ps_ret pe_non)))), ?_⟩
  refine ⟨_, rfl, _, .ty "list", .type "list", .type "list", true, rfl, .ty "list", .base (.lst hws), kit_ty (by decide +kernel), true, rfl, iteF ?_⟩
  refine ⟨_, rfl, a, _, rfl, SqL.of hws, ?_⟩
  have w := walk_enum (K := K) (a := a) (xs := ws.map (·.2))
  refine for_it w (fun i σ H' => ∃ o2 o3, σ = [some (nv n), some (.ref a), o2, o3] ∧ Same H H') ⟨none, none, rfl, Same.refl _⟩ (fun i σ H' _ ⟨_, _, _, s⟩ => SqL.of (s _ _ hws)) ?_ ?_
  · rintro i v σ H' H'' hi ⟨o2, o3, rfl, s⟩ ⟨U, x, y, rfl, hU, rfl, e1, e2⟩
    have e2 : (ws.map (·.2))[i]? = some y := e2
    rw [List.getElem?_map] at e2
    obtain ⟨w0, hw0, rfl⟩ := Option.map_eq_some_iff.mp e2
    have hm := List.mem_of_getElem? hw0
    obtain ⟨t, et, ht⟩ := (kws w0 hm).mono (s.trans (same_new (o := .tup [x, w0.2]) (Same.refl H') hU))
    have okw := ok w0.1 (by rw [← ews]; exact List.mem_map.mpr ⟨w0, hm, rfl⟩)
    rw [et] at ht ⊢
    refine ⟨U, _, rfl, SqT.of upd_same, rfl, _, _, rfl, _, _, rfl, rfl, ?_⟩
    refine ⟨_, rfl, _, rfl, n, t, w0.1, rfl, ht, okw, fun H2 s2 => ⟨true, rfl, iteF ?_⟩⟩
    refine ⟨_, _, rfl, fun b o eb => s2 _ _ ?_⟩
    rw [upd_ne (ne_of_none (s _ _ eb) hU)]; exact s _ _ eb
  · rintro σ H' ⟨o2, o3, rfl, s⟩
    exact q H' s
end
end K35
end

section
set_option Elab.async false
set_option linter.all false
set_option maxRecDepth 100000
set_option maxHeartbeats 4000000
/-! W11: the steps are applied. -/
namespace K35
open PySem PySem.Spec PyProof.Rows L2 CM
theorem drop_dk (ps : List (Nat × Nat)) (a : Nat) : dropK (dk ps) (nk a) = dk (ps.filter fun p => decide (p.1 ≠ a)) := by
  unfold dropK
  rw [dk, dv, iv, List.filter_map, List.filter_map, dk, dv, iv]
  congr 2
  refine List.filter_congr fun p _ => ?_
  show decide (nk p.1 ≠ nk a) = decide (p.1 ≠ a)
  by_cases h : p.1 = a
  · have h1 : nk p.1 = nk a := by rw [h]
    simp [h, h1]
  · have h1 : ¬ nk p.1 = nk a := fun z => h (nk_inj z)
    simp [h, h1]
theorem val_dk {ps : List (Nat × Nat)} {F : PF} (r : Rep ps F) (a : Nat) : valV (dk ps) (nk a) = (F a).map nv := valV_rep r a
section
variable {P : Program} {w : World} {K : PySem.W.Frag} {mg : Str → Option Value} {base : Heap}
theorem setF_pi {n : Nat} {F : PF} (h : ∀ x y, F x = some y → x < n) {o : Option Nat} (ho : ∀ x, o = some x → x < n) (t : Nat) : ∀ x y, setF F o t x = some y → x < n := fun x y e => by
  cases o with
  | none => exact h x y e
  | some z =>
    have e : (if x = z then some t else F x) = some y := e
    split at e
    · rename_i hx; rw [hx]; exact ho z rfl
    · exact h x y e
theorem rep_len {n : Nat} {ps : List (Nat × Nat)} {F : PF} (r : Rep ps F) (h : ∀ x y, F x = some y → x < n) : ps.length ≤ n := by
  have := pigeon r.nd fun x hx => by
    obtain ⟨⟨a, b⟩, hp, rfl⟩ := List.mem_map.mp hx
    exact h a b (r.mem.mp hp)
  rwa [List.length_map] at this
/-- found[source], places[target] = target, source, where there is a source -/
theorem put_turn {D : Ends} {ra rb s6 s7 s8 o4 o5 : Option V} {H' : Hp} {tq aF aG : Addr} {o : Option Nat} {tg n : Nat} {ps qs : List (Nat × Nat)} {F1 G1 : PF} (hq : H' tq = some (.tup [(o.map nv).getD .non, nv tg])) (hf : H' aF = some (.dK (dk ps))) (hg : H' aG = some (.dK (dk qs))) (nFG : aF ≠ aG)
    (R : Rep ps F1) (S : Rep qs G1) (l1 : ps.length ≤ 100) (l2 : qs.length ≤ 100)
    (k : ∀ H2 ps' qs' o4 o5, (∀ b u, H' b = some u → b ≠ aF → b ≠ aG → H2 b = some u) → H2 aF = some (.dK (dk ps')) → H2 aG = some (.dK (dk qs')) → Rep ps' (setF F1 o tg) → Rep qs' (putI G1 o tg) → ps'.length ≤ ps.length + 1 → qs'.length ≤ qs.length + 1 → D.nx [ra, rb, some (.ref aF), some (.ref aG), o4, o5, s6, s7, s8] H2) :
    gTup K 2 (gCons (gName 4) (gCons (gName 5) gNil)) (.ref tq) [ra, rb, some (.ref aF), some (.ref aG), o4, o5, s6, s7, s8] H' fun σ2 H2 =>
      tIfS (tB (tNotN (tVar 4))) (tAsg (tTup (tCons (tVar 5) (tCons (tVar 4) tNil))) (gTup K 2 (gCons (gSub (tVar 2) (tVar 4) rSetD) (gCons (gSub (tVar 3) (tVar 5) rSetD) gNil)))) tNext D σ2 H2 := by
  refine ⟨tq, _, rfl, SqT.of hq, rfl, _, _, rfl, _, _, rfl, rfl, ?_⟩
  refine ⟨_, rfl, _, rfl, ?_⟩
  cases o with
  | none => exact iteF (k H' ps qs _ _ (fun b u e _ _ => e) hf hg R S (Nat.le_succ _) (Nat.le_succ _))
  | some z =>
    refine iteT ⟨_, rfl, _, rfl, by show 2 ≤ sizeLine; decide, fun T hT => ⟨T, _, rfl, SqT.of upd_same, rfl, _, _, rfl, ?_⟩⟩
    have hf1 : (upd H' T (.tup [nv tg, nv z])) aF = some (.dK (dk ps)) := by rw [upd_ne (ne_of_none hf hT)]; exact hf
    have hg1 : (upd H' T (.tup [nv tg, nv z])) aG = some (.dK (dk qs)) := by rw [upd_ne (ne_of_none hg hT)]; exact hg
    refine ⟨_, rfl, _, rfl, aF, _, rfl, DPut.k (k := nk z) hf1 (by rw [dk_length]; exact small12 (by omega)), _, _, rfl, _, rfl, _, rfl, aG, _, rfl, DPut.k (k := nk tg) (by rw [upd_ne nFG.symm]; exact hg1) (by rw [dk_length]; exact small12 (by omega)), rfl, ?_⟩
    refine k _ (ptb ps z tg) (ptb qs tg z) _ _ (fun b u e n1 n2 => ?_) ?_ ?_ (rep_put R z tg) (rep_put S tg z) (ptb_len _ _ _) (ptb_len _ _ _)
    · rw [upd_ne n2, upd_ne n1, upd_ne (ne_of_none e hT)]; exact e
    · rw [upd_ne nFG, upd_same, put_dk]
    · rw [upd_same]
      show some (HO.dK (putK (dk qs) (nk tg) (nv z))) = _
      rw [put_dk]
def sp_after_list : Sp := fun vs H Q _ => ∃ (d a : Addr) (n : Nat) (f : PF) (ss : List Stp), vs = [.ref d, .ref a] ∧ H d = some (.dK (dk (arr n f))) ∧ PI n f ∧ n ≤ 12 ∧ StepsAt H a ss ∧ (∀ s ∈ ss, s.ok n) ∧ ∀ e H' ps, H e = none → Same H H' → H' e = some (.dK (dk ps)) → Rep ps (appL ss f) → Q (.ref e) H'
theorem ok_after_list (T : Txt K mg base) : Okd P w K mg base 1 (a_after_list K) sp_after_list := by
  refine okd (d := d_after_list) T 65 rfl rfl sc_after_list (fun _ _ _ _ _ _ us hl => match us, hl with | [_, _], _ => rfl) (fun vs H Q E h => ?_) (fun cdv A outer s H vs Q E hr h => ?_)
  · obtain ⟨d, a, n, f, ss, rfl, _⟩ := h; rfl
  obtain ⟨d, a, n, f, ss, rfl, hd, pf, n2, ⟨ws, ews, hws, kws⟩, ok, q⟩ := h
  refine ⟨_, (pss_cons (ps_set (i := 2) sc_after_list.nd rfl (Or.inl rfl) (pe_callTy call_dictD rfl T.f_dict (by decide +kernel) (pa_cons (pv 0) pa_nil)))
      (pss_cons (ps_lock (ps_setDc (i := 3) (own := [("source", 4), ("target", 5)]) rfl sc_after_list.nd rfl rfl (sw_trueD rfl rfl rfl (by decide +kernel)) (pi_items (pv 0)) (blkOk_by (N := N_after_list) (sc := defScope s_after_list) (by decide +kernel)) (fun _ _ _ _ _ => (pgK_tup (K := K) (n := 2) rfl rfl (pgs_cons (pg_name (i := 4) sc_after_list.nd rfl (Or.inl rfl)) (pgs_cons (pg_name (i := 5) sc_after_list.nd rfl (Or.inl rfl)) pgs_nil)))) (fun _ _ _ _ _ => pts_nil) (fun _ _ _ _ _ => (pv 5)) (fun _ _ _ _ _ => (pv 4))))
      (pss_cons (ps_for PassesOwn.never rfl (pi_list (pv 1)) (pg_name (i := 6) sc_after_list.nd rfl (Or.inl rfl))
      (pss_one (ps_if (pt_cmpR op_eq (pe_ix ix_tup (pv 6) pe_int (fun _ _ => rfl)) pe_str (nomark _)) (pss_one (ps_if (pt_cmp (pc_din (hu_of hr) (pe_ix ix_tup (pv 6) pe_int (fun _ _ => rfl)) (pv 2))) (pss_one (ps_expr (pe_dpop1 (pv 3) (pe_dpop1 (pv 2) (pe_ix ix_tup (pv 6) pe_int (fun _ _ => rfl)) ⟨rfl, rfl, rfl, rfl⟩) ⟨rfl, rfl, rfl, rfl⟩))) pss_nil)) (pss_cons (ps_par (i := 7) (j := 8) rfl sc_after_list.nd rfl rfl (by decide) rfl rfl (pa_cons (pe_dpop2 (pv 3) (pe_ix ix_tup (pv 6) pe_int (fun _ _ => rfl)) pe_non ⟨rfl, rfl, rfl, rfl⟩) (pa_cons (pe_dpop2 (pv 3) (pe_ix ix_tup (pv 6) pe_int (fun _ _ => rfl)) pe_non ⟨rfl, rfl, rfl, rfl⟩) pa_nil)) (by rfl))
      (pss_one (ps_for PassesOwn.never rfl (pi_tup (pe_tup (pa_cons (pe_tup (pa_cons (pv 7) (pa_cons (pe_ix ix_tup (pv 6) pe_int (fun _ _ => rfl)) pa_nil))) (pa_cons (pe_tup (pa_cons (pv 8) (pa_cons (pe_ix ix_tup (pv 6) pe_int (fun _ _ => rfl)) pa_nil))) pa_nil)))) (pg_tup rfl (pgs_cons (pg_name (i := 4) sc_after_list.nd rfl (Or.inl rfl)) (pgs_cons (pg_name (i := 5) sc_after_list.nd rfl (Or.inl rfl)) pgs_nil)))
      (pss_one (ps_if (pt_cmp (pc_notN (pv 4)) rfl) (pss_one (ps_asg (pe_tup (pa_cons (pv 5) (pa_cons (pv 4) pa_nil))) (pg_tup rfl (pgs_cons (pg_sub (pv 2) (pv 4) (set_dict (hu_of hr))) (pgs_cons (pg_sub (pv 3) (pv 5) (set_dict (hu_of hr))) pgs_nil))))) pss_nil))))))))
      (pss_one (ps_ret (pv 2)))))), ?_⟩
  refine ⟨_, rfl, d, _, rfl, .inl hd, fun aF hF => ?_⟩
  have sF := same_new (o := .dK (dk (arr n f))) (Same.refl H) hF
  have nFd : d ≠ aF := ne_of_none hd hF
  have al := arr_len n f
  -- places
  refine ⟨d, .dK (dk (arr n f)), sF _ _ hd, True.intro, fun od => ⟨_, rfl, d, od, _, rfl, upd_same, ?_⟩⟩
  have R0 := rep_inv (arr_rep pf) pf
  refine dc_items upd_same (by intros; rfl) (fun p => (some (p.2, p.1)).map fun r : Nat × Nat => (r.1, nv r.2)) (by rw [iv_fm_keys (F := fun p : Nat × Nat => some (p.2, p.1))]; exact R0.nd) (by omega) (fun x y H' hm s => Et.yes) (fun x y x' v H' hm e s Q' q' => ?_) (fun x y x' v H' hm e s Q' q' => ?_) fun aG H2 s2 hG h2 => ?_
  · cases e; exact ⟨_, rfl, q'⟩
  · cases e; exact ⟨_, rfl, q'⟩
  rw [iv_fm (F := fun p : Nat × Nat => some (p.2, p.1))] at h2
  obtain ⟨hG0, nGd⟩ := lock_none (sF _ _ hd) hG
  have s2' := lock_back (sF _ _ hd) s2
  refine ⟨s2 _ _ upd_same, ?_⟩
  have hF2 := s2' _ _ (upd_same (a := aF))
  have hG2 : (upd H2 d (.dK (dk (arr n f)))) aG = some (.dK (dk ((arr n f).filterMap fun p => some (p.2, p.1)))) := by rw [upd_ne nGd]; exact h2
  have s3 := sF.trans s2'
  have nFG : aF ≠ aG := fun z => by rw [← z, upd_same] at hG0; cases hG0
  have hG00 : H aG = none := sF.free hG0
  generalize upd H2 d (.dK (dk (arr n f))) = H3 at s2' hF2 hG2 s3
  clear s2 h2 hG
  refine ⟨_, rfl, a, rfl, ⟨_, SqL.of (s3 _ _ hws)⟩, ?_⟩
  have w := walk_list (K := K) (a := a) (xs := ws.map (·.2))
  rw [List.length_map] at w
  have wl : ws.length = ss.length := by rw [← ews, List.length_map]
  refine for_it w (fun i σ H' => ∃ o4 o5 o6 o7 o8 ps qs, σ = [some (.ref d), some (.ref a), some (.ref aF), some (.ref aG), o4, o5, o6, o7, o8] ∧ Same H H' ∧ H' aF = some (.dK (dk ps)) ∧ H' aG = some (.dK (dk qs)) ∧ Rep ps (appL (ss.take i) f) ∧ Rep qs (invF n (appL (ss.take i) f)))
    ⟨none, none, none, none, none, _, _, rfl, s3, hF2, hG2, arr_rep pf, R0⟩ (fun i σ H' _ ⟨_, _, _, _, _, _, _, _, s, _⟩ => SqL.of (s _ _ hws)) ?_ ?_
  · rintro i v σ H' H'' hi ⟨o4, o5, o6, o7, o8, ps, qs, rfl, s, hf, hg, R, S⟩ ⟨rfl, ev⟩
    rw [List.getElem?_map] at ev
    obtain ⟨w0, hw0, rfl⟩ := Option.map_eq_some_iff.mp ev
    have hm := List.mem_of_getElem? hw0
    obtain ⟨t, et, ht⟩ := (kws w0 hm).mono s
    have es : ss[i]? = some w0.1 := by rw [← ews, List.getElem?_map, hw0]; rfl
    have okw := ok w0.1 (List.mem_of_getElem? es)
    have ea : appL (ss.take (i + 1)) f = appS w0.1 (appL (ss.take i) f) := by
      unfold appL
      rw [List.take_succ, es, List.foldl_append]; rfl
    rw [ea]
    have pF : PI n (appL (ss.take i) f) := appL_pi pf fun s hs => ok s (List.mem_of_mem_take hs)
    generalize appL (ss.take i) f = F at *
    rw [et]
    generalize w0.1 = st at *
    obtain ⟨d1, d2, d3, d4⟩ := str_dec
    have ntF : t ≠ aF := ne_of ht hf (by intro z; cases z)
    have ntG : t ≠ aG := ne_of ht hg (by intro z; cases z)
    cases st with
    | fg x =>
      refine ⟨_, rfl, t, _, 0, _, rfl, rfl, SqT.of ht, rfl, rfl, true, by rw [d4], iteT ?_⟩
      refine ⟨_, rfl, t, _, 1, _, rfl, rfl, SqT.of ht, rfl, _, rfl, aF, _, rfl, dgetR (.inl hf) R rfl, _, rfl, ?_⟩
      rw [Option.isSome_map]
      cases e : F x with
      | none =>
        have e1 : appS (.fg x) F = F := mns_none e
        rw [e1]
        exact iteF ⟨_, _, _, _, _, ps, qs, rfl, s, hf, hg, R, S⟩
      | some y =>
        refine iteT ⟨_, rfl, aG, rfl, .inl ⟨_, .inl hg⟩, _, rfl, aF, rfl, .inl ⟨_, .inl hf⟩, _, rfl, t, _, 1, _, rfl, rfl, SqT.of ht, rfl, _, nk x, nv y, hf, rfl, by rw [val_dk R, e]; rfl, ?_⟩
        have hg' : (upd H'' aF (.dK (dropK (dk ps) (nk x)))) aG = some (.dK (dk qs)) := by rw [upd_ne nFG.symm]; exact hg
        refine ⟨_, nk y, nv x, hg', rfl, by rw [val_dk S, (invF_iff pF).mpr e]; rfl, ?_⟩
        refine ⟨_, _, _, _, _, _, _, rfl, same_at (same_at s hF) hG00, ?_, ?_, rep_drop R x, by rw [fg_inv pF e]; exact rep_drop S y⟩
        · rw [upd_ne nFG, upd_same, drop_dk]
        · rw [upd_same, drop_dk]
    | sw x y =>
      obtain ⟨hx, hy, hxy⟩ := okw
      refine ⟨_, rfl, t, _, 0, _, rfl, rfl, SqT.of ht, rfl, rfl, false, by rw [d2], iteF ?_⟩
      have Gl : ∀ z v, invF n F z = some v → z < n := fun z v e => (pF.dom ((invF_iff pF).mp e)).2
      have Gr : ∀ z v, invF n F z = some v → v < n := fun z v e => (pF.dom ((invF_iff pF).mp e)).1
      have Fd : ∀ z v, F z = some v → z < n := fun z v e => (pF.dom e).1
      have Go : ∀ z, ∀ v, invF n F z = some v → v < n := Gr
      -- what is behind the two pops
      have fin : ∀ (D : Ends), (∀ σ H', (∃ o4 o5 o6 o7 o8 ps qs, σ = [some (.ref d), some (.ref a), some (.ref aF), some (.ref aG), o4, o5, o6, o7, o8] ∧ Same H H' ∧ H' aF = some (.dK (dk ps)) ∧ H' aG = some (.dK (dk qs)) ∧ Rep ps (appS (.sw x y) F) ∧ Rep qs (invF n (appS (.sw x y) F))) → D.nx σ H') →
          ∀ (H1 : Hp) (qs2 : List (Nat × Nat)), Same H H1 → H1 aF = some (.dK (dk ps)) → H1 aG = some (.dK (dk qs2)) → Rep qs2 (mns (mns (invF n F) x) y) → H1 t = some (.tup (stv (.sw x y))) →
          tFor (iTup K (tTup (tCons (tTup (tCons (tVar 7) (tCons (tOp (rIxT K) (tVar 6) (tC (V.int 2))) tNil))) (tCons (tTup (tCons (tVar 8) (tCons (tOp (rIxT K) (tVar 6) (tC (V.int 1))) tNil))) tNil)))) (gTup K 2 (gCons (gName 4) (gCons (gName 5) gNil)))
            (tIfS (tB (tNotN (tVar 4))) (tAsg (tTup (tCons (tVar 5) (tCons (tVar 4) tNil))) (gTup K 2 (gCons (gSub (tVar 2) (tVar 4) rSetD) (gCons (gSub (tVar 3) (tVar 5) rSetD) gNil)))) tNext)
            D [some (.ref d), some (.ref a), some (.ref aF), some (.ref aG), o4, o5, some (.ref t), some (((invF n F x).map nv).getD .non), some (((invF n F y).map nv).getD .non)] H1 := by
        intro D hD H1 qs2 s1 f1 g1 S2 t1
        refine ⟨_, rfl, _, rfl, t, _, 2, _, rfl, rfl, SqT.of t1, rfl, by show 2 ≤ sizeLine; decide, fun u1 hu1 => ?_⟩
        have t2 : (upd H1 u1 (.tup [((invF n F x).map nv).getD .non, nv y])) t = some (.tup (stv (.sw x y))) := by rw [upd_ne (ne_of_none t1 hu1)]; exact t1
        refine ⟨_, rfl, _, rfl, t, _, 1, _, rfl, rfl, SqT.of t2, rfl, by show 2 ≤ sizeLine; decide, fun u2 hu2 => ⟨by show 2 ≤ sizeLine; decide, fun u3 hu3 => ⟨u3, rfl, ⟨_, SqT.of upd_same⟩, ?_⟩⟩⟩
        have k1 : ∀ b u, H1 b = some u → (upd (upd (upd H1 u1 (.tup [((invF n F x).map nv).getD .non, nv y])) u2 (.tup [((invF n F y).map nv).getD .non, nv x])) u3 (.tup [.ref u1, .ref u2])) b = some u := fun b u e => by
          have e1 : (upd H1 u1 (.tup [((invF n F x).map nv).getD .non, nv y])) b = some u := by rw [upd_ne (ne_of_none e hu1)]; exact e
          have e2 : (upd (upd H1 u1 (.tup [((invF n F x).map nv).getD .non, nv y])) u2 (.tup [((invF n F y).map nv).getD .non, nv x])) b = some u := by rw [upd_ne (ne_of_none e1 hu2)]; exact e1
          rw [upd_ne (ne_of_none e2 hu3)]; exact e2
        have a1 : (upd (upd (upd H1 u1 (.tup [((invF n F x).map nv).getD .non, nv y])) u2 (.tup [((invF n F y).map nv).getD .non, nv x])) u3 (.tup [.ref u1, .ref u2])) u1 = some (.tup [((invF n F x).map nv).getD .non, nv y]) := by
          have e2 : (upd (upd H1 u1 (.tup [((invF n F x).map nv).getD .non, nv y])) u2 (.tup [((invF n F y).map nv).getD .non, nv x])) u1 = some (.tup [((invF n F x).map nv).getD .non, nv y]) := by rw [upd_ne (ne_of_none upd_same hu2), upd_same]
          rw [upd_ne (ne_of_none e2 hu3)]; exact e2
        have a2 : (upd (upd (upd H1 u1 (.tup [((invF n F x).map nv).getD .non, nv y])) u2 (.tup [((invF n F y).map nv).getD .non, nv x])) u3 (.tup [.ref u1, .ref u2])) u2 = some (.tup [((invF n F y).map nv).getD .non, nv x]) := by
          rw [upd_ne (ne_of_none upd_same hu3), upd_same]
        have a3 : (upd (upd (upd H1 u1 (.tup [((invF n F x).map nv).getD .non, nv y])) u2 (.tup [((invF n F y).map nv).getD .non, nv x])) u3 (.tup [.ref u1, .ref u2])) u3 = some (.tup [.ref u1, .ref u2]) := upd_same
        generalize upd (upd (upd H1 u1 (.tup [((invF n F x).map nv).getD .non, nv y])) u2 (.tup [((invF n F y).map nv).getD .non, nv x])) u3 (.tup [.ref u1, .ref u2]) = H4 at k1 a1 a2 a3
        clear hu1 hu2 hu3 t2
        have f4 := k1 _ _ f1
        have g4 := k1 _ _ g1
        have s4 : Same H H4 := s1.trans k1
        have lp : ps.length ≤ 12 := by have := rep_len R Fd; omega
        have lq2 : qs2.length ≤ 12 := by
          have := rep_len (n := n) S2 fun z v e => by
            unfold mns at e
            split at e
            · cases e
            · split at e
              · cases e
              · exact Gl z v e
          omega
        have nF1 : u1 ≠ aF := ne_of a1 f4 (by intro z; cases z)
        have nF2 : u2 ≠ aF := ne_of a2 f4 (by intro z; cases z)
        have nF3 : u3 ≠ aF := ne_of a3 f4 (by intro z; cases z)
        have nG1 : u1 ≠ aG := ne_of a1 g4 (by intro z; cases z)
        have nG2 : u2 ≠ aG := ne_of a2 g4 (by intro z; cases z)
        have nG3 : u3 ≠ aG := ne_of a3 g4 (by intro z; cases z)
        let FF : Nat → PF := fun j => if j = 0 then F else if j = 1 then setF F (invF n F x) y else setF (setF F (invF n F x) y) (invF n F y) x
        let GG : Nat → PF := fun j => if j = 0 then mns (mns (invF n F) x) y else if j = 1 then putI (mns (mns (invF n F) x) y) (invF n F x) y else putI (putI (mns (mns (invF n F) x) y) (invF n F x) y) (invF n F y) x
        refine for_it (walk_tup (K := K) (a := u3) (xs := [.ref u1, .ref u2])) (fun j σ H' => ∃ o4 o5 ps qs, σ = [some (.ref d), some (.ref a), some (.ref aF), some (.ref aG), o4, o5, some (.ref t), some (((invF n F x).map nv).getD .non), some (((invF n F y).map nv).getD .non)] ∧ Same H H' ∧
            H' u1 = some (.tup [((invF n F x).map nv).getD .non, nv y]) ∧ H' u2 = some (.tup [((invF n F y).map nv).getD .non, nv x]) ∧ H' u3 = some (.tup [.ref u1, .ref u2]) ∧ H' aF = some (.dK (dk ps)) ∧ H' aG = some (.dK (dk qs)) ∧ Rep ps (FF j) ∧ Rep qs (GG j) ∧ ps.length ≤ 12 + j ∧ qs.length ≤ 12 + j)
          ⟨_, _, ps, qs2, rfl, s4, a1, a2, a3, f4, g4, R, S2, lp, lq2⟩ (fun j σ H' _ ⟨_, _, _, _, _, _, _, _, h, _⟩ => SqT.of h) ?_ ?_
        · rintro j v σ Ha Hb hj ⟨p4, p5, ps', qs', rfl, s', b1, b2, b3, f', g', R', S', l1, l2⟩ ⟨rfl, ev⟩
          have keep : ∀ {Hc : Hp}, (∀ b u, Hb b = some u → b ≠ aF → b ≠ aG → Hc b = some u) → Same H Hc := fun {Hc} k b u e => k b u (s' b u e) (ne_of_none e hF) (ne_of_none e hG00)
          match j, hj, ev with
          | 0, _, ev =>
            have ev : some (V.ref u1) = some v := ev
            cases ev
            refine put_turn (n := n) b1 f' g' nFG R' S' (by omega) (by omega) fun H2 ps2 qs3 r4 r5 kk f2 g2 R2 S3 i1 i2 => ?_
            exact ⟨r4, r5, ps2, qs3, rfl, keep kk, kk _ _ b1 nF1 nG1, kk _ _ b2 nF2 nG2, kk _ _ b3 nF3 nG3, f2, g2, R2, S3, by omega, by omega⟩
          | 1, _, ev =>
            have ev : some (V.ref u2) = some v := ev
            cases ev
            refine put_turn (n := n) b2 f' g' nFG R' S' (by omega) (by omega) fun H2 ps2 qs3 r4 r5 kk f2 g2 R2 S3 i1 i2 => ?_
            exact ⟨r4, r5, ps2, qs3, rfl, keep kk, kk _ _ b1 nF1 nG1, kk _ _ b2 nF2 nG2, kk _ _ b3 nF3 nG3, f2, g2, R2, S3, by omega, by omega⟩
          | j + 2, hj, _ => exact absurd hj (by simp)
        · rintro σ H' ⟨p4, p5, ps', qs', rfl, s', b1, b2, b3, f', g', R', S', l1, l2⟩
          refine hD _ _ ⟨_, _, _, _, _, ps', qs', rfl, s', f', g', ?_, ?_⟩
          · rw [← sw_fun pF hxy]; exact R'
          · rw [← sw_inv pF hxy hx hy]; exact S'
      refine ⟨_, rfl, aG, rfl, .inl ⟨_, .inl hg⟩, _, rfl, t, _, 1, _, rfl, rfl, SqT.of ht, rfl, _, nk x, hg, rfl, fun v hv => ?_, fun hv => ?_⟩
      · rw [val_dk S] at hv
        obtain ⟨z, hz, rfl⟩ := Option.map_eq_some_iff.mp hv
        have g1 : (upd H'' aG (.dK (dropK (dk qs) (nk x)))) aG = some (.dK (dk (qs.filter fun p => decide (p.1 ≠ x)))) := by rw [upd_same, drop_dk]
        have f1 : (upd H'' aG (.dK (dropK (dk qs) (nk x)))) aF = some (.dK (dk ps)) := by rw [upd_ne nFG]; exact hf
        have t1 : (upd H'' aG (.dK (dropK (dk qs) (nk x)))) t = some (.tup (stv (.sw x y))) := by rw [upd_ne ntG]; exact ht
        have s1 : Same H (upd H'' aG (.dK (dropK (dk qs) (nk x)))) := same_at s hG00
        have S1 := rep_drop S x
        generalize upd H'' aG (.dK (dropK (dk qs) (nk x))) = H5 at g1 f1 t1 s1
        refine ⟨_, rfl, aG, rfl, .inl ⟨_, .inl g1⟩, _, rfl, t, _, 2, _, rfl, rfl, SqT.of t1, rfl, _, nk y, g1, rfl, fun u hu => ?_, fun hu => ?_⟩
        · rw [val_dk S1, mns, if_neg (Ne.symm hxy)] at hu
          obtain ⟨w, hw, rfl⟩ := Option.map_eq_some_iff.mp hu
          refine ⟨_, _, rfl, ?_⟩
          have fin' := fin
          rw [hz, hw] at fin'
          exact fin' _ (fun _ _ h => h) (upd H5 aG (.dK (dropK (dk _) (nk y)))) _ (same_at s1 hG00) (by rw [upd_ne nFG]; exact f1) (by rw [upd_same, drop_dk]) (rep_drop S1 y) (by rw [upd_ne ntG]; exact t1)
        · rw [val_dk S1, mns, if_neg (Ne.symm hxy)] at hu
          have hw : invF n F y = none := Option.map_eq_none_iff.mp hu
          refine ⟨_, _, rfl, ?_⟩
          have fin' := fin
          rw [hz, hw] at fin'
          have e2 : mns (mns (invF n F) x) y = mns (invF n F) x := mns_none (by rw [mns, if_neg (Ne.symm hxy)]; exact hw)
          exact fin' _ (fun _ _ h => h) H5 _ s1 f1 g1 (by rw [e2]; exact S1) t1
      · rw [val_dk S] at hv
        have hz : invF n F x = none := Option.map_eq_none_iff.mp hv
        have e1 : mns (invF n F) x = invF n F := mns_none hz
        refine ⟨_, rfl, aG, rfl, .inl ⟨_, .inl hg⟩, _, rfl, t, _, 2, _, rfl, rfl, SqT.of ht, rfl, _, nk y, hg, rfl, fun u hu => ?_, fun hu => ?_⟩
        · rw [val_dk S] at hu
          obtain ⟨w, hw, rfl⟩ := Option.map_eq_some_iff.mp hu
          refine ⟨_, _, rfl, ?_⟩
          have fin' := fin
          rw [hz, hw] at fin'
          exact fin' _ (fun _ _ h => h) (upd H'' aG (.dK (dropK (dk _) (nk y)))) _ (same_at s hG00) (by rw [upd_ne nFG]; exact hf) (by rw [upd_same, drop_dk]) (by rw [e1]; exact rep_drop S y) (by rw [upd_ne ntG]; exact ht)
        · rw [val_dk S] at hu
          have hw : invF n F y = none := Option.map_eq_none_iff.mp hu
          refine ⟨_, _, rfl, ?_⟩
          have fin' := fin
          rw [hz, hw] at fin'
          have e2 : mns (mns (invF n F) x) y = invF n F := by rw [e1]; exact mns_none hw
          exact fin' _ (fun _ _ h => h) H'' _ s hf hg (by rw [e2]; exact S) ht
  · rintro σ H' ⟨o4, o5, o6, o7, o8, ps, qs, rfl, s, hf, hg, R, S⟩
    rw [wl, List.take_length] at R
    exact ⟨_, rfl, q aF H' ps hF s hf R⟩
def sp_applied (K : PySem.W.Frag) : Sp := fun vs H Q _ => ∃ (p a : Addr) (n : Nat) (f : PF) (ss : List Stp), vs = [.ref p, .ref a] ∧ MapAt K H p n f ∧ StepsAt H a ss ∧ (∀ s ∈ ss, s.ok n) ∧ ∀ x H', H x = none → Same H H' → MapAt K H' x n (appL ss f) → Q (.ref x) H'
theorem ok_applied (T : Txt K mg base) : Okd P w K mg base 6 (a_applied K) (sp_applied K) := by
  refine okd (d := d_applied) T 66 rfl rfl sc_applied (fun _ _ _ _ _ _ us hl => match us, hl with | [_, _], _ => rfl) (fun vs H Q E h => ?_) (fun cdv A outer s H vs Q E hr h => ?_)
  · obtain ⟨p, a, n, f, ss, rfl, _⟩ := h; rfl
  obtain ⟨p, a, n, f, ss, rfl, m, k, ok, q⟩ := h
  obtain ⟨dx, d, h1, h2⟩ := m.ob
  refine ⟨_, (pss_cons (ps_expr (pe_cD (ok_check_map T) (hr.mono (by decide)) T.g_check_map (pa_cons (pv 0) pa_nil)))
      (pss_cons (ps_set (i := 2) sc_applied.nd rfl (Or.inl rfl) (pe_cD (ok_first_invalid T) (hr.mono (by decide)) T.g_first_invalid (pa_cons (pe_prD (ok_Map_size T) (hr.mono (by decide)) T.cl_Map T.p_Map_size (pv 0)) (pa_cons (pv 1) pa_nil))))
      (pss_cons (ps_if (pt_cmp (pc_notN (pv 2)) rfl) (pss_one ps_never) pss_nil)
      (pss_one (ps_ret (pe_mkD (ok_Map_init T) T.mk_Map (hr.mono (by decide)) T.g_Map (pa_cons (pe_prD (ok_Map_size T) (hr.mono (by decide)) T.cl_Map T.p_Map_size (pv 0)) (pa_cons (pe_cD (ok_after_list T) (hr.mono (by decide)) T.g_after_list (pa_cons (pe_prD (ok_Map_arrows T) (hr.mono (by decide)) T.cl_Map T.p_Map_arrows (pv 0)) (pa_cons (pv 1) pa_nil))) pa_nil)))))))), ?_⟩
  refine ⟨_, rfl, p, n, f, rfl, m, ?_⟩
  refine ⟨_, rfl, p, dx, _, rfl, h1, p, n, f, rfl, m, _, rfl, n, a, ss, rfl, k, ok, fun H1 s1 => ?_⟩
  refine ⟨_, rfl, false, rfl, iteF ?_⟩
  have m1 := m.same s1
  refine ⟨_, rfl, p, dx, _, rfl, s1 _ _ h1, p, n, f, rfl, m1, _, rfl, p, dx, _, rfl, s1 _ _ h1, p, n, f, rfl, m1, fun d2 hd2 => ?_⟩
  have s2 := same_new (o := .dK (dk (arr n f))) s1 hd2
  refine ⟨_, rfl, d2, a, n, f, ss, rfl, upd_same, m.pi, m.n2, k.same s2, ok, fun e H3 ps he s3 h3 R => ?_⟩
  exact mk_map h3 R (appL_pi m.pi ok) m.n1 m.n2 fun x H4 hx s4 k4 => q x H4 (s2.free (s3.free hx)) (s2.trans (s3.trans s4)) k4
end
end K35
end

section
set_option Elab.async false
set_option linter.all false
set_option maxRecDepth 100000
set_option maxHeartbeats 4000000
/-! W12: next_steps, as far as its length. -/
namespace K35
open PySem PySem.Spec PyProof.Rows L2 CM
/-- home: what is known behind some of the parts -/
structure HmT (S : List Nat) (hm : Nat → Nat) (hs : List (Nat × Nat)) : Prop where
  nd : (hs.map (·.1)).Nodup
  sub : ∀ v ∈ hs.map (·.1), v ∈ S
  lks : ∀ v, v ∈ S → lk hs v = some (hm v)
theorem HmT.put {S : List Nat} {hm : Nat → Nat} {hs : List (Nat × Nat)} (h : HmT S hm hs) (v : Nat) : HmT (S ++ [v]) hm (ptb hs v (hm v)) :=
  ⟨ptb_nd v _ h.nd, fun z hz => by
    rw [List.mem_append]
    rcases ptb_key.mp hz with e | e
    · exact .inr (by rw [e]; exact List.mem_singleton_self v)
    · exact .inl (h.sub z e), fun z hz => by
    rw [lk_ptb]
    by_cases e : z = v
    · rw [if_pos e, e]
    · rw [if_neg e]
      refine h.lks z ?_
      rcases List.mem_append.mp hz with q | q
      · exact q
      · exact absurd (List.mem_singleton.mp q) e⟩
section
variable {P : Program} {w : World} {K : PySem.W.Frag} {mg : Str → Option Value} {base : Heap}
def sp_next_steps (K : PySem.W.Frag) : Sp := fun vs H Q _ => ∃ p r n f g, vs = [.ref p, .ref r] ∧ MapAt K H p n f ∧ MapAt K H r n g ∧ (lkB n f g = false → ∀ a H', Same H H' → H' a = some (.lst []) → Q (.ref a) H') ∧
  (lkB n f g = true → ∀ a H' xs, Same H H' → H' a = some (.lst xs) → xs.length = nsU n (hmL (prts n f g)) + (forg n f g).length → Q (.ref a) H')
theorem take_flat {rs : List (List Nat)} {i : Nat} {r : List Nat} (e : rs[i]? = some r) : (rs.take (i + 1)).flatten = (rs.take i).flatten ++ r := by
  rw [List.take_succ, e, List.flatten_append]; simp
theorem ok_next_steps (T : Txt K mg base) : Okd P w K mg base 8 (a_next_steps K) (sp_next_steps K) := by
  refine okd (d := d_next_steps) T 73 rfl rfl sc_next_steps (fun _ _ _ _ _ _ us hl => match us, hl with | [_, _], _ => rfl) (fun vs H Q E h => ?_) (fun cdv A outer s H vs Q E hr h => ?_)
  · obtain ⟨p, r, n, f, g, rfl, _⟩ := h; rfl
  obtain ⟨p, r, n, f, g, rfl, m, m', q0, q1⟩ := h
  obtain ⟨dx, d, h1, h2⟩ := m.ob
  have n2 := m.n2
  refine ⟨_, (pss_cons (ps_set (i := 2) sc_next_steps.nd rfl (Or.inl rfl) (pe_cD (ok_parts_between T) (hr.mono (by decide)) T.g_parts_between (pa_cons (pv 0) (pa_cons (pv 1) pa_nil))))
      (pss_cons (ps_if (pt_cmp (pc_isN (pv 2)) rfl) (pss_one (ps_ret (pe_lst pa_nil))) pss_nil)
      (pss_cons (ps_set (i := 3) sc_next_steps.nd rfl (Or.inr rfl) (pe_dc2 (own := [("number", 5), ("part", 6), ("element", 4)]) (vs1 := [4]) rfl sc_next_steps.nd (pi_enum rfl T.f_enumerate (pa_cons (pv 2) pa_nil)) (blkOk_by (N := N_next_steps) (sc := defScope s_next_steps) (by decide +kernel)) (by decide) (fun _ _ _ _ _ => (pgK_tup (K := K) (n := 2) rfl rfl (pgs_cons (pg_name (i := 5) sc_next_steps.nd rfl (Or.inl rfl)) (pgs_cons (pg_name (i := 6) sc_next_steps.nd rfl (Or.inl rfl)) pgs_nil)))) (fun _ _ _ _ _ => (piK_list (K := K) rfl (pv 6))) (fun _ _ _ _ _ => (pg_name (i := 4) sc_next_steps.nd rfl (Or.inl rfl))) (fun _ _ _ _ _ => (pv 4)) (fun _ _ _ _ _ => (pv 5))))
      (pss_cons (ps_set (i := 7) sc_next_steps.nd rfl (Or.inl rfl) (pe_lst pa_nil))
      (pss_cons (ps_for PassesOwn.never rfl (pi_range1 rfl T.f_range (pa_cons (pe_prD (ok_Map_size T) (hr.mono (by decide)) T.cl_Map T.p_Map_size (pv 0)) pa_nil)) (pg_name (i := 8) sc_next_steps.nd rfl (Or.inr rfl))
      (pss_cons (ps_setLc (i := 9) (own := [("other", 10)]) rfl sc_next_steps.nd rfl rfl (sw_true rfl rfl rfl (by decide +kernel)) (pi_range2 rfl T.f_range (pa_cons (pe_op op_add (pv 8) pe_int) (pa_cons (pe_prD (ok_Map_size T) (hr.mono (by decide)) T.cl_Map T.p_Map_size (pv 0)) pa_nil))) (blkOk_by (N := N_next_steps) (sc := defScope s_next_steps) (by decide +kernel)) (fun _ _ _ _ _ => (pg_name (i := 10) sc_next_steps.nd rfl (Or.inl rfl))) (fun _ _ _ _ _ => (pts_one (pt_cmpR op_eq (pe_dget (hu_of hr) (pv 3) (pv 10) (fun _ _ => rfl)) (pe_dget (hu_of hr) (pv 3) (pv 8) (fun _ _ => rfl)) (nomark _)))) (fun _ _ _ _ _ => (pv 10)))
      (pss_one (ps_expr (pe_bm PySem.F.plainAttrs_list PySem.F.slot_list_extend PySem.F.type_list_extend mt_extend (pv 7) (pa_cons (pe_lc (own := [("other", 10)]) rfl sc_next_steps.nd (pi_list (pv 9)) (blkOk_by (N := N_next_steps) (sc := defScope s_next_steps) (by decide +kernel)) (fun _ _ _ _ _ => (pg_name (i := 10) sc_next_steps.nd rfl (Or.inl rfl))) (fun _ _ _ _ _ => pts_nil) (fun _ _ _ _ _ => (pe_tup (pa_cons pe_str (pa_cons (pv 8) (pa_cons (pv 10) pa_nil)))))) pa_nil))))))
      (pss_one (ps_ret (pe_op op_cat (pv 7) (pe_cD (ok_forgotten T) (hr.mono (by decide)) T.g_forgotten (pa_cons (pv 0) (pa_cons (pv 1) pa_nil))))))))))), ?_⟩
  refine ⟨_, rfl, _, rfl, p, r, n, f, g, rfl, m, m', fun eb H1 s1 => ?_, fun eb aP H1 s1 k1 => ?_⟩
  · exact ⟨_, rfl, true, rfl, iteT ⟨by show 0 ≤ sizeLine; decide, fun a ha => q0 eb a _ (s1.trans (same_new (Same.refl _) ha)) upd_same⟩⟩
  refine ⟨_, rfl, false, rfl, iteF ?_⟩
  obtain ⟨qs, eq, hP, hq⟩ := k1
  have nd := prts_nodup m.pi m'.pi
  have pm := prts_perm m.pi m'.pi
  generalize hrs : prts n f g = rs at *
  have lq : qs.length = rs.length := by rw [← eq, List.length_map]
  have rat : ∀ (i : Nat) (pr : Addr × List Nat), qs[i]? = some pr → rs[i]? = some pr.2 := fun i pr e => by rw [← eq, List.getElem?_map, e]; rfl
  -- home
  refine ⟨_, rfl, aP, _, rfl, SqL.of hP, fun aM hM => ?_⟩
  have wO := walk_enum (K := K) (a := aP) (xs := qs.map fun q => V.ref q.1)
  rw [List.length_map] at wO
  refine ⟨fun i mm H => i + mm = qs.length ∧ Same H1 H ∧ ∃ hs, H aM = some (.dK (dk hs)) ∧ HmT (rs.take i).flatten (hmL rs) hs, ⟨qs.length, Nat.zero_add _, same_new (Same.refl _) hM, [], upd_same, ⟨List.nodup_nil, fun _ h => (by cases h), fun v hv => by simp at hv⟩⟩, ?_⟩
  rintro i mm H2 ⟨hi, s2, hs, hh, HT⟩
  cases mm with
  | zero =>
    have ei : i = qs.length := hi
    subst ei
    refine .inl ⟨wO.stops H2 (SqL.of (s2 _ _ hP)), ?_⟩
    rw [lq, List.take_length] at HT
    have hval : ∀ v, v < n → lk hs v = some (hmL rs v) := fun v hv => HT.lks v (pm.mem_iff.mpr (List.mem_range.mpr hv))
    -- found
    refine ⟨by show 0 ≤ sizeLine; decide, fun aF hF => ?_⟩
    have s12 := s1.trans s2
    have sF := same_new (o := .lst []) (Same.refl H2) hF
    refine ⟨_, rfl, p, dx, _, rfl, sF _ _ (s12 _ _ h1), p, n, f, rfl, (m.same s12).same sF, n, rfl, by omega, by omega, ?_⟩
    rw [Int.toNat_natCast]
    refine for_it walk_range0 (fun i σ H' => ∃ o8 o9 fs, σ = [some (.ref p), some (.ref r), some (.ref aP), some (.ref aM), none, none, none, some (.ref aF), o8, o9, none] ∧ Same H2 H' ∧ H' aF = some (.lst fs) ∧ fs.length = (((List.range n).take i).map (cnt1 n (hmL rs))).sum)
      ⟨none, none, [], rfl, sF, upd_same, rfl⟩ (fun _ _ _ _ _ => trivial) ?_ ?_
    · rintro x v σ H' H'' hx ⟨o8, o9, fs, rfl, s, hf, el⟩ ⟨rfl, rfl⟩
      have mp := (m.same s12).same s
      obtain ⟨dx', d', h1', _⟩ := mp.ob
      have fl : fs.length ≤ 12 * 12 := by
        rw [el]
        have h3 : ∀ l : List Nat, (l.map (cnt1 n (hmL rs))).sum ≤ l.length * 12 := fun l => by
          induction l with
          | nil => exact Nat.le_refl _
          | cons a l ih =>
            rw [List.map_cons, List.sum_cons, List.length_cons, Nat.succ_mul]
            have : cnt1 n (hmL rs) a ≤ 12 := by
              unfold cnt1
              have := List.length_filter_le (fun k => decide (hmL rs (a + 1 + k) = hmL rs a)) (List.range (n - (a + 1)))
              rw [List.length_range] at this
              omega
            omega
        have := h3 ((List.range n).take x)
        have h4 := List.length_take_le x (List.range n)
        omega
      refine ⟨_, rfl, _, _, rfl, rfl, _, rfl, p, dx', _, rfl, h1', p, n, f, rfl, mp, _, _, rfl, ⟨by omega, by omega, by omega, by omega⟩, ?_⟩
      have en : ((n : Int) - ((x : Int) + 1)).toNat = n - (x + 1) := by omega
      rw [en]
      have hM' : H'' aM = some (.dK (dk hs)) := s _ _ hh
      have ek : ∀ k : Nat, V.int ((x : Int) + 1 + (k : Int)) = nv (x + 1 + k) := fun k => by
        show V.int _ = V.int _
        rw [show ((x + 1 + k : Nat) : Int) = (x : Int) + 1 + (k : Int) by omega]
      refine lc_rng (by intros; rfl) (fun k => if hmL rs (x + 1 + k) = hmL rs x then some (nv (x + 1 + k)) else none) (by omega) (fun k H3 hk s3 Q' q' => ?_) (fun k v H3 hk e s3 Q' q' => ?_) fun aL H3 s3 hL h3 => ?_
      · rw [ek]
        refine ⟨_, rfl, _, rfl, aM, nv (hmL rs (x + 1 + k)), rfl, dget (.inl (s3 _ _ hM')) (by rw [lk_iv, hval _ (by omega)]; rfl), _, rfl, _, rfl, aM, nv (hmL rs x), rfl, dget (.inl (s3 _ _ hM')) (by rw [lk_iv, hval _ hx]; rfl), rfl, _, rfl, ?_⟩
        by_cases e : hmL rs (x + 1 + k) = hmL rs x
        · rw [if_pos e] at q'
          rw [decide_eq_true (by rw [e])]; exact q'
        · rw [if_neg e] at q'
          rw [decide_eq_false (fun z => e (by have := V.int.inj z; omega))]; exact q'
      · rw [ek]
        split at e
        · cases e; exact ⟨_, rfl, q'⟩
        · cases e
      have ll : ((List.range (n - (x + 1))).filterMap fun k => if hmL rs (x + 1 + k) = hmL rs x then some (nv (x + 1 + k)) else none).length = cnt1 n (hmL rs) x := by
        unfold cnt1
        have : ∀ l : List Nat, (l.filterMap fun k => if hmL rs (x + 1 + k) = hmL rs x then some (nv (x + 1 + k)) else none).length = (l.filter fun k => decide (hmL rs (x + 1 + k) = hmL rs x)).length := fun l => by
          induction l with
          | nil => rfl
          | cons a l ih =>
            rw [List.filterMap_cons, List.filter_cons]
            by_cases e : hmL rs (x + 1 + a) = hmL rs x
            · rw [if_pos e, if_pos (decide_eq_true e), List.length_cons, List.length_cons, ih]
            · rw [if_neg e, if_neg (fun z => e (of_decide_eq_true z)), ih]
        exact this _
      generalize ((List.range (n - (x + 1))).filterMap fun k => if hmL rs (x + 1 + k) = hmL rs x then some (nv (x + 1 + k)) else none) = ls at h3 ll
      have lb : ls.length ≤ 12 := by
        rw [ll]
        unfold cnt1
        have := List.length_filter_le (fun k => decide (hmL rs (x + 1 + k) = hmL rs x)) (List.range (n - (x + 1)))
        rw [List.length_range] at this
        omega
      refine ⟨_, rfl, .inl ⟨rfl, _, SqL.of (s3 _ _ hf)⟩, _, rfl, aL, rfl, ⟨_, SqL.of h3⟩, ?_⟩
      refine lc_mk (walk_list (K := K) (a := aL) (xs := ls)) (fun H' s => SqL.of (s _ _ h3)) (bd_one (by intros; rfl)) (fun j => true) (fun j v H => True) (by omega) (fun _ _ _ _ _ _ => trivial) (fun _ _ _ _ _ _ _ _ => trivial) (fun j H' hj s => Et.yes) (fun j H' hj _ s R hR => ?_) fun D H4 ws4 s4 hD h4 e4 _ => ?_
      · exact ⟨_, rfl, _, rfl, by show 3 ≤ sizeLine; decide, fun t ht => hR _ _ (same_new (Same.refl _) ht) trivial⟩
      · have l2 : ws4.length = ls.length := by
          have h1 := congrArg List.length e4
          rw [List.length_map, filter_yes, List.length_range] at h1
          exact h1
        have s34 := s3.trans s4
        refine ⟨aF, D, _, _, rfl, rfl, s34 _ _ hf, h4, by rw [List.length_map]; exact Nat.le_of_lt (small12 (by omega)), ?_⟩
        refine ⟨_, _, _, rfl, fun b o eb' => ?_, upd_same, ?_⟩
        · rw [upd_ne (ne_of_none eb' hF)]
          exact s34 _ _ (s _ _ eb')
        · rw [List.length_append, List.length_map, l2, ll, el, List.take_succ, List.getElem?_range hx, List.map_append, List.sum_append]
          simp
    · rintro σ H4 ⟨o8, o9, fs, rfl, s4, hf, el⟩
      have s14 := s12.trans s4
      have el2 : fs.length = nsU n (hmL rs) := by
        rw [el, List.take_of_length_le (by rw [List.length_range]; exact Nat.le_refl _)]; rfl
      have fl : fs.length ≤ 200 := by
        rw [el2]
        have := pairs_sum nd pm
        have h5 : ∀ l : List (List Nat), (l.map fun r => r.length * r.length).sum ≤ l.flatten.length * l.flatten.length := fun l => by
          induction l with
          | nil => exact Nat.le_refl _
          | cons a l ih =>
            rw [List.map_cons, List.sum_cons, List.flatten_cons, List.length_append]
            have : (a.length + l.flatten.length) * (a.length + l.flatten.length) = a.length * a.length + l.flatten.length * l.flatten.length + 2 * (a.length * l.flatten.length) := by
              rw [Nat.mul_add, Nat.add_mul, Nat.add_mul, Nat.mul_comm l.flatten.length a.length]; omega
            omega
        have h6 := h5 rs
        have h7 := pm.length_eq
        rw [List.length_range] at h7
        rw [h7] at h6
        have : n * n ≤ 12 * 12 := Nat.mul_le_mul n2 n2
        omega
      refine ⟨_, rfl, _, rfl, _, rfl, p, r, n, f, g, rfl, m.same s14, m'.same s14, fun aG H5 hG s5 kG => ?_⟩
      obtain ⟨ws5, e5, h5, k5⟩ := kG
      have l1 : ws5.length = (forg n f g).length := by rw [← e5, List.length_map]
      have l2 : ws5.length ≤ 12 := by
        rw [l1]
        unfold forg
        have h2 := List.length_filterMap_le (fun x => if (g x).isSome then none else some (Stp.fg x)) ((arr n f).map (·.1))
        rw [List.length_map] at h2
        have := m.small
        omega
      refine ⟨aF, aG, _, _, rfl, rfl, s5 _ _ hf, h5, by rw [List.length_map]; exact Nat.le_of_lt (small12 (by omega)), fun a ha => ?_⟩
      exact q1 eb a _ _ (s14.trans (s5.trans (same_new (Same.refl _) ha))) upd_same (by rw [List.length_append, List.length_map, el2, l1])
  | succ mm =>
    have hlt : i < qs.length := by omega
    refine .inr ⟨wO.goes i H2 hlt (SqL.of (s2 _ _ hP)), fun H => (i + 1) + mm = qs.length ∧ Same H1 H ∧ ∃ hs, H aM = some (.dK (dk hs)) ∧ HmT (rs.take (i + 1)).flatten (hmL rs) hs, fun H' z => ⟨mm, Nat.lt_succ_self mm, z⟩, fun v H' y => ?_⟩
    obtain ⟨U, x, z, rfl, hU, rfl, e1, e2⟩ := wO.yields i H2 v H' hlt (SqL.of (s2 _ _ hP)) y
    have e := List.getElem?_eq_getElem hlt
    have em := List.getElem_mem hlt
    have er := rat i _ e
    have e1 : some (V.int (i : Nat)) = some x := e1
    have e2 : (qs.map fun q => V.ref q.1)[i]? = some z := e2
    rw [List.getElem?_map, e] at e2
    cases e1
    cases e2
    have hl := s2 _ _ (hq _ em)
    generalize qs[i] = pr at *
    obtain ⟨c, xs⟩ := pr
    have er : rs[i]? = some xs := er
    have hl : H2 c = some (.lst (li xs)) := hl
    have tU := same_new (o := .tup [V.int (i : Nat), V.ref c]) (Same.refl H2) hU
    refine ⟨U, _, rfl, SqT.of upd_same, rfl, _, _, rfl, _, _, rfl, rfl, rfl, _, rfl, c, rfl, ⟨_, SqL.of (tU _ _ hl)⟩, ?_⟩
    have hlen : ∀ hs' : List (Nat × Nat), ∀ S, HmT S (hmL rs) hs' → (∀ v ∈ S, v < n) → hs'.length ≤ 12 := fun hs' S h hS => by
      have := pigeon h.nd fun v hv => hS v (h.sub v hv)
      rw [List.length_map] at this
      omega
    have rin : ∀ v ∈ rs.flatten, v < n := fun v hv => List.mem_range.mp (pm.mem_iff.mp hv)
    have wI := walk_li (K := K) (a := c) (ns := xs)
    have hlc : LiAt H1 c xs := by
      have := hq _ em
      exact this
    refine ⟨fun j kk H => j + kk = xs.length ∧ Same H1 H ∧ ∃ hs, H aM = some (.dK (dk hs)) ∧ HmT ((rs.take i).flatten ++ xs.take j) (hmL rs) hs, ⟨xs.length, Nat.zero_add _, s2.trans tU, hs, tU _ _ hh, by rw [List.take_zero, List.append_nil]; exact HT⟩, ?_⟩
    rintro j kk H5 ⟨hj, s5, hs5, hh5, HT5⟩
    cases kk with
    | zero =>
      have ej : j = xs.length := hj
      subst ej
      rw [List.take_length, ← take_flat er] at HT5
      exact .inl ⟨wI.stops H5 (SqL.of (s5 _ _ hlc)), by omega, s5, hs5, hh5, HT5⟩
    | succ kk =>
      have hjl : j < xs.length := by omega
      refine .inr ⟨wI.goes j H5 hjl (SqL.of (s5 _ _ hlc)), fun H => (j + 1) + kk = xs.length ∧ Same H1 H ∧ ∃ hs, H aM = some (.dK (dk hs)) ∧ HmT ((rs.take i).flatten ++ xs.take (j + 1)) (hmL rs) hs, fun H' z => ⟨kk, Nat.lt_succ_self kk, z⟩, fun x H6 y => ?_⟩
      obtain ⟨rfl, ey⟩ := wI.yields j H5 x H6 hjl (SqL.of (s5 _ _ hlc)) y
      have ex := List.getElem?_eq_getElem hjl
      have exm := List.getElem_mem hjl
      rw [li_get ex] at ey
      cases ey
      have hx : hmL rs xs[j] = i := hmL_at nd i xs er _ exm
      have e3 : xs.take (j + 1) = xs.take j ++ [xs[j]] := by rw [List.take_succ, ex]; rfl
      generalize xs[j] = v at *
      have l5 := hlen hs5 _ HT5 fun u hu => by
        rcases List.mem_append.mp hu with h | h
        · refine rin u ?_
          have := List.take_append_drop i rs
          rw [← this, List.flatten_append]
          exact List.mem_append_left _ h
        · exact rin u (List.mem_flatten.mpr ⟨xs, List.mem_of_getElem? er, List.mem_of_mem_take h⟩)
      refine ⟨rfl, _, rfl, _, rfl, _, nk v, rfl, hh5, by rw [dk_length]; exact small12 (by omega), by omega, same_at s5 hM, ptb hs5 v i, ?_, ?_⟩
      · rw [upd_same]
        show some (HO.dK (putK (dk hs5) (nk v) (nv i))) = _
        rw [put_dk]
      · rw [e3, ← List.append_assoc]
        have hp := HT5.put v
        rw [hx] at hp
        exact hp
end
end K35
end

section
set_option Elab.async false
set_option linter.all false
set_option maxRecDepth 100000
set_option maxHeartbeats 4000000
/-! W13: obstacles. -/
namespace K35
open PySem PySem.Spec PyProof.Rows L2 CM
section
variable {P : Program} {w : World} {K : PySem.W.Frag} {mg : Str → Option Value} {base : Heap}
def sp_failing_chains : Sp := fun vs H Q _ => ∃ (e : Addr) (d : Nat) (ks : List Nat), vs = [.ref e, nv d] ∧ H e = some (.dK (dk (tab ks))) ∧ (∀ L ∈ ks, L < 13) ∧ 1 ≤ d ∧ d ≤ 12 ∧ ∀ H', Same H H' → Q (((fcGo (cf ks) d ((tab ks).map (·.1)).reverse fun _ => 0).map nv).getD .non) H'
theorem ok_failing_chains (T : Txt K mg base) : Okd P w K mg base 1 (a_failing_chains K) sp_failing_chains := by
  refine okd (d := d_failing_chains) T 43 rfl rfl sc_failing_chains (fun _ _ _ _ _ _ us hl => match us, hl with | [_, _], _ => rfl) (fun vs H Q E h => ?_) (fun cdv A outer s H vs Q E hr h => ?_)
  · obtain ⟨e, d, ks, rfl, _⟩ := h; rfl
  obtain ⟨e, d, ks, rfl, he, lt, d1, d2, q⟩ := h
  have R := tab_rep lt
  have tl := tab_len ks
  refine ⟨_, (pss_cons (ps_set (i := 2) sc_failing_chains.nd rfl (Or.inl rfl) pe_dnewK)
      (pss_cons (ps_for PassesOwn.never rfl (pi_list (pe_revL (pe_callTy (call_list_dK rfl) rfl T.f_list (by decide +kernel) (pa_cons (pv 0) pa_nil)))) (pg_name (i := 3) sc_failing_chains.nd rfl (Or.inl rfl))
      (pss_cons (ps_set (i := 4) sc_failing_chains.nd rfl (Or.inl rfl) (pe_op op_mod (pe_op op_sub (pe_dget (hu_of hr) (pv 0) (pv 3) (fun _ _ => rfl)) (pe_dget2 (hu_of hr) (pv 2) (pv 3) pe_int ⟨rfl, rfl, rfl, rfl⟩)) (pv 1)))
      (pss_one (ps_if (PW.pt (pw_and (pt_cmpR op_gt (pv 4) pe_int (nomark _)) (pw_and1 (pt_cmpR op_gt (pv 3) pe_int (nomark _))))) (pss_cons (ps_if (pt_cmpR op_lt (pe_dget2 (hu_of hr) (pv 0) (pe_op op_sub (pv 3) pe_int) pe_int ⟨rfl, rfl, rfl, rfl⟩) (pe_op op_sub (pv 1) (pv 4)) (nomark _)) (pss_one (ps_ret (pv 3))) pss_nil)
      (pss_one (ps_dput (hu_of hr) (pv 2) (pe_op op_sub (pv 3) pe_int) (pe_op op_sub (pv 1) (pv 4)) rfl))) pss_nil))))
      (pss_one (ps_ret pe_non)))), ?_⟩
  intro aU hU
  have sU := same_new (o := .dK []) (Same.refl H) hU
  have eB : (dk (tab ks)).map (fun kv => kV kv.1) = li ((tab ks).map (·.1)) := by rw [dk, dv, iv, li, List.map_map, List.map_map, List.map_map]; rfl
  refine ⟨_, rfl, e, _, rfl, sU _ _ he, fun aK hK => ?_⟩
  rw [eB]
  have sK := same_new (o := .lst (li ((tab ks).map (·.1)))) sU hK
  refine ⟨aK, _, rfl, SqL.of upd_same, fun aR hR => ?_⟩
  have er : (li ((tab ks).map (·.1))).reverse = li ((tab ks).map (·.1)).reverse := by rw [li, li, List.map_reverse]
  rw [er]
  have sR := same_new (o := .lst (li ((tab ks).map (·.1)).reverse)) sK hR
  have hR0 : H aR = none := sK.free hR
  have hu1 : (upd (upd (upd H aU (.dK [])) aK (.lst (li ((tab ks).map (·.1))))) aR (.lst (li ((tab ks).map (·.1)).reverse))) aU = some (.dK []) := by
    have h1 : (upd (upd H aU (.dK [])) aK (.lst (li ((tab ks).map (·.1))))) aU = some (.dK []) := by rw [upd_ne (ne_of_none upd_same hK), upd_same]
    rw [upd_ne (ne_of_none h1 hR)]; exact h1
  have hr1 : (upd (upd (upd H aU (.dK [])) aK (.lst (li ((tab ks).map (·.1))))) aR (.lst (li ((tab ks).map (·.1)).reverse))) aR = some (.lst (li ((tab ks).map (·.1)).reverse)) := upd_same
  generalize upd (upd (upd H aU (.dK [])) aK (.lst (li ((tab ks).map (·.1))))) aR (.lst (li ((tab ks).map (·.1)).reverse)) = H1 at sR hu1 hr1
  clear hR hK sK
  refine ⟨aR, rfl, ⟨_, SqL.of hr1⟩, ?_⟩
  have km : ∀ L ∈ ((tab ks).map (·.1)).reverse, ∃ c, cf ks L = some c := fun L hL => by
    obtain ⟨⟨a, b⟩, hp, rfl⟩ := List.mem_map.mp (List.mem_reverse.mp hL)
    exact ⟨b, (arr_mem.mp hp).2⟩
  have kl : ((tab ks).map (·.1)).reverse.length ≤ 13 := by rw [List.length_reverse, List.length_map]; exact tl
  generalize ((tab ks).map (·.1)).reverse = kr at *
  refine for_it walk_li (fun i σ H' => ∃ o3 o4 us u, σ = [some (.ref e), some (nv d), some (.ref aU), o3, o4] ∧ Same H H' ∧ H' aR = some (.lst (li kr)) ∧ H' aU = some (.dK (dk us)) ∧ (∀ z, (lk us z).getD 0 = u z) ∧ us.length ≤ i ∧ fcGo (cf ks) d kr (fun _ => 0) = fcGo (cf ks) d (kr.drop i) u)
    ⟨none, none, [], fun _ => 0, rfl, sR, hr1, hu1, fun _ => rfl, Nat.zero_le _, rfl⟩ (fun i σ H' _ ⟨_, _, _, _, _, _, h, _⟩ => SqL.of h) ?_ ?_
  · rintro i v σ H' H'' hi ⟨o3, o4, us, u, rfl, s, hr', hu', hus, ul, ef⟩ ⟨rfl, ev⟩
    have ei := List.getElem?_eq_getElem hi
    have em := List.getElem_mem hi
    rw [li_get ei] at ev
    cases ev
    rw [List.drop_eq_getElem_cons hi, fcGo] at ef
    obtain ⟨c, hc⟩ := km _ em
    generalize kr[i] = L at *
    rw [hc] at ef
    have he' := s _ _ he
    have g0 : ∀ z, ((lk us z).map nv).getD (V.int 0) = nv (u z) := fun z => by
      rw [← hus z]
      cases lk us z <;> rfl
    refine ⟨_, rfl, _, rfl, e, nv c, rfl, dgetR (.inl he') R (by rw [hc]; rfl), _, rfl, aU, rfl, .inl ⟨_, .inl hu'⟩, _, rfl, (lk us L).map nv, dget (.inl hu') (lk_iv L us), ?_⟩
    rw [g0]
    refine ⟨_, _, rfl, rfl, _, rfl, _, _, rfl, rfl, by show (0 : Int) < d; omega, ?_⟩
    dsimp only
    generalize hx : ((c : Int) - (u L : Int)) % (d : Int) = x
    refine ⟨_, rfl, _, _, rfl, rfl, _, rfl, ?_⟩
    have hx0 : 0 ≤ x := by rw [← hx]; exact Int.emod_nonneg _ (by omega)
    have hx1 : x < d := by rw [← hx]; exact Int.emod_lt_of_pos _ (by omega)
    have ef : fcGo (cf ks) d kr (fun _ => 0) = if 0 < x ∧ 1 < L then (if (((cf ks (L - 1)).getD 0 : Nat) : Int) < (d : Int) - x then some L else fcGo (cf ks) d (kr.drop (i + 1)) fun z => if z = L - 1 then ((d : Int) - x).toNat else u z) else fcGo (cf ks) d (kr.drop (i + 1)) u := by
      rw [← hx]; exact ef
    show if decide ((0 : Int) < x) = true then _ else _
    by_cases c1 : 0 < x
    · rw [decide_eq_true c1]
      refine iteT ⟨_, rfl, _, _, rfl, rfl, _, rfl, ?_⟩
      show if decide ((1 : Int) < (L : Int)) = true then _ else _
      by_cases c2 : 1 < L
      · rw [decide_eq_true (by omega)]
        rw [if_pos ⟨c1, c2⟩] at ef
        have eL : V.int ((L : Int) - 1) = nv (L - 1) := by rw [show (L : Int) - 1 = ((L - 1 : Nat) : Int) by omega]
        refine iteT ⟨_, rfl, e, rfl, .inl ⟨_, .inl he'⟩, _, rfl, _, _, rfl, rfl, (cf ks (L - 1)).map nv, ?_, ?_⟩
        · show DGet _ _ (V.int ((L : Int) - 1)) _
          rw [eL]; exact dgetR (.inl he') R rfl
        have g1 : ((cf ks (L - 1)).map nv).getD (V.int 0) = nv ((cf ks (L - 1)).getD 0) := by cases cf ks (L - 1) <;> rfl
        rw [g1]
        refine ⟨_, rfl, _, rfl, _, _, rfl, rfl, _, _, rfl, rfl, _, rfl, ?_⟩
        show if decide ((((cf ks (L - 1)).getD 0 : Nat) : Int) < (d : Int) - x) = true then _ else _
        by_cases c3 : (((cf ks (L - 1)).getD 0 : Nat) : Int) < (d : Int) - x
        · rw [decide_eq_true c3]
          rw [if_pos c3] at ef
          refine iteT ⟨_, rfl, ?_⟩
          have := q H'' s
          rw [ef] at this
          exact this
        · rw [decide_eq_false c3]
          rw [if_neg c3] at ef
          have ed : V.int ((d : Int) - x) = nv ((d : Int) - x).toNat := by show V.int _ = V.int _; rw [Int.toNat_of_nonneg (by omega)]
          refine iteF ⟨_, rfl, _, rfl, _, _, rfl, rfl, _, rfl, _, rfl, _, _, rfl, rfl, aU, upd H'' aU (.dK (putK (dk us) (nk (L - 1)) (V.int ((d : Int) - x)))), rfl, ?_, ?_⟩
          · show DPut _ _ (V.int ((L : Int) - 1)) _ _
            rw [eL]; exact DPut.k (k := nk (L - 1)) hu' (by rw [dk_length]; exact small12 (by omega))
          · refine ⟨_, _, ptb us (L - 1) ((d : Int) - x).toNat, _, rfl, same_at s hU, ?_, ?_, fun z => ?_, ?_, ef⟩
            · rw [upd_ne (ne_of hr' hu' (by intro z; cases z))]; exact hr'
            · rw [upd_same, ed, put_dk]
            · rw [lk_ptb]
              by_cases ez : z = L - 1
              · rw [if_pos ez, if_pos ez]; rfl
              · rw [if_neg ez, if_neg ez]; exact hus z
            · have := ptb_len us (L - 1) ((d : Int) - x).toNat
              omega
      · rw [decide_eq_false (by omega)]
        rw [if_neg (fun z => c2 z.2)] at ef
        exact iteF ⟨_, _, us, u, rfl, s, hr', hu', hus, by omega, ef⟩
    · rw [decide_eq_false c1]
      rw [if_neg (fun z => c1 z.1)] at ef
      exact iteF (iteF ⟨_, _, us, u, rfl, s, hr', hu', hus, by omega, ef⟩)
  · rintro σ H' ⟨o3, o4, us, u, rfl, s, hr', hu', hus, ul, ef⟩
    rw [List.drop_eq_nil_of_le (Nat.le_refl _), fcGo] at ef
    have := q H' s
    rw [ef] at this
    exact this
/-- an obstacle as a value -/
def obV (b : Bool) : Str := if b = true then "cycles" else "chains"
def ObsV (o : Option (Bool × Nat)) (v : V) (H : Hp) : Prop := match o with
  | none => v = .non
  | some (b, L) => ∃ t, v = .ref t ∧ H t = some (.tup [.str (obV b), nv L])
theorem ObsV.mono {o : Option (Bool × Nat)} {v : V} {H H' : Hp} (h : ObsV o v H) (s : Same H H') : ObsV o v H' := by
  cases o with
  | none => exact h
  | some p => obtain ⟨t, e, ht⟩ := h; exact ⟨t, e, s _ _ ht⟩
def sp_obstacle_of (K : PySem.W.Frag) : Sp := fun vs H Q _ => ∃ (p : Addr) (ls ks : List Nat) (d : Nat), vs = [.ref p, nv d] ∧ ShAt K H p ls ks ∧ 1 ≤ d ∧ d ≤ 12 ∧ (∀ L, 0 < L → L ≤ 12 → 0 < gsz L d) ∧ ∀ v H', Same H H' → ObsV (obsF ls ks d) v H' → Q v H'
theorem ok_obstacle_of (T : Txt K mg base) : Okd P w K mg base 3 (a_obstacle_of K) (sp_obstacle_of K) := by
  refine okd (d := d_obstacle_of) T 44 rfl rfl sc_obstacle_of (fun _ _ _ _ _ _ us hl => match us, hl with | [_, _], _ => rfl) (fun vs H Q E h => ?_) (fun cdv A outer s H vs Q E hr h => ?_)
  · obtain ⟨p, ls, ks, d, rfl, _⟩ := h; rfl
  obtain ⟨p, ls, ks, d, rfl, m, d1, d2, gp, q⟩ := h
  obtain ⟨dx, dc, dh, h1, h2, h3⟩ := m.ob
  have sm := m.sh.sum
  refine ⟨_, (pss_cons (ps_for PassesOwn.never rfl (pi_items (pe_lk (pe_prD (ok_Shape_cycles T) (hr.mono (by decide)) T.cl_Shape T.p_Shape_cycles (pv 0)))) (pg_tup rfl (pgs_cons (pg_name (i := 2) sc_obstacle_of.nd rfl (Or.inl rfl)) (pgs_cons (pg_name (i := 3) sc_obstacle_of.nd rfl (Or.inl rfl)) pgs_nil)))
      (pss_one (ps_if (pt_cmpR op_ne (pe_op op_mod (pv 3) (pe_cD (ok_group_size T) (hr.mono (by decide)) T.g_group_size (pa_cons (pv 2) (pa_cons (pv 1) pa_nil)))) pe_int (nomark _)) (pss_one (ps_ret (pe_tup (pa_cons pe_str (pa_cons (pv 2) pa_nil))))) pss_nil)))
      (pss_cons (ps_set (i := 4) sc_obstacle_of.nd rfl (Or.inl rfl) (pe_cD (ok_failing_chains T) (hr.mono (by decide)) T.g_failing_chains (pa_cons (pe_prD (ok_Shape_chains T) (hr.mono (by decide)) T.cl_Shape T.p_Shape_chains (pv 0)) (pa_cons (pv 1) pa_nil))))
      (pss_one (ps_ret (pe_ifExp (pt_cmp (pc_isN (pv 4)) rfl) pe_non (pe_tup (pa_cons pe_str (pa_cons (pv 4) pa_nil)))))))), ?_⟩
  refine ⟨_, rfl, p, dx, _, rfl, h1, p, ls, ks, rfl, m, fun e1 he1 => ⟨e1, _, rfl, upd_same, True.intro, fun od => ⟨e1, od, _, rfl, upd_same, ?_⟩⟩⟩
  have s0 : Same H (upd (upd H e1 (.dK (dk (tab ls)))) e1 (.frz od (.dK (dk (tab ls))))) := fun b o eb => by
    have nb := ne_of_none eb he1
    rw [upd_ne nb, upd_ne nb]; exact eb
  have l0 : (upd (upd H e1 (.dK (dk (tab ls)))) e1 (.frz od (.dK (dk (tab ls))))) e1 = some (.frz od (.dK (dk (tab ls)))) := upd_same
  generalize (upd (upd H e1 (.dK (dk (tab ls)))) e1 (.frz od (.dK (dk (tab ls))))) = H0 at s0 l0
  refine for_it walk_dk (fun i σ H' => ∃ o2 o3, σ = [some (.ref p), some (nv d), o2, o3, none] ∧ Same H0 H' ∧ ∀ r ∈ (tab ls).take i, decide (r.2 % gsz r.1 d ≠ 0) = false)
    ⟨none, none, rfl, Same.refl _, fun r hr => by simp at hr⟩ (fun i σ H' _ ⟨_, _, _, s, _⟩ => s _ _ l0) ?_ ?_
  · rintro i v σ H' H'' hi ⟨o2, o3, rfl, s, hn⟩ ⟨U, L, c, rfl, hU, rfl, e⟩
    obtain ⟨b1, b2, b3, b4, b5⟩ := tab_small m.sh.lp (by omega) (List.mem_of_getElem? e)
    have gL := gp L b4 b1
    refine ⟨U, _, rfl, SqT.of upd_same, rfl, _, _, rfl, _, _, rfl, rfl, ?_⟩
    refine ⟨_, rfl, _, rfl, _, rfl, L, d, rfl, b4, b1, d1, d2, _, _, rfl, rfl, by show (0 : Int) < (gsz L d : Int); omega, rfl, _, rfl, ?_⟩
    have em : ((c : Int) % (gsz L d : Int)) = ((c % gsz L d : Nat) : Int) := toNat_mod
    by_cases hz : c % gsz L d = 0
    · have : decide (V.int ((c : Int) % (gsz L d : Int)) = V.int 0) = true := by rw [em, hz]; rfl
      show if (!decide (V.int ((c : Int) % (gsz L d : Int)) = V.int 0)) = true then _ else _
      rw [this]
      refine iteF ⟨_, _, rfl, same_new s hU, fun r hr => ?_⟩
      rw [List.take_succ, e] at hr
      rcases List.mem_append.mp hr with h | h
      · exact hn r h
      · have : r = (L, c) := by simpa using h
        subst this
        exact decide_eq_false fun z => z hz
    · have : decide (V.int ((c : Int) % (gsz L d : Int)) = V.int 0) = false := decide_eq_false fun z => hz (by have := V.int.inj z; omega)
      show if (!decide (V.int ((c : Int) % (gsz L d : Int)) = V.int 0)) = true then _ else _
      rw [this]
      refine iteT ⟨_, rfl, by show 2 ≤ sizeLine; decide, fun t ht => q _ _ ((s0.trans (same_new s hU)).trans (same_new (Same.refl _) ht)) ?_⟩
      have ef : obsF ls ks d = some (true, L) := by
        unfold obsF
        rw [find_at e hn (decide_eq_true hz)]
      rw [ef]
      exact ⟨t, rfl, upd_same⟩
  · rintro σ H1 ⟨o2, o3, rfl, s1, hn⟩
    rw [List.take_length] at hn
    have s1' := s0.trans s1
    have m1 := m.same s1'
    refine ⟨_, rfl, p, dx, _, rfl, s1' _ _ h1, p, ls, ks, rfl, m1, fun e2 he2 => ⟨_, rfl, e2, d, ks, rfl, upd_same, m.sh.lt.2, d1, d2, fun H2 s2 => ?_⟩⟩
    have s2' := s1'.trans ((same_new (o := .dK (dk (tab ks))) (Same.refl H1) he2).trans s2)
    have ef : obsF ls ks d = (fcGo (cf ks) d ((tab ks).map (·.1)).reverse fun _ => 0).map fun L => (false, L) := by
      unfold obsF
      rw [List.find?_eq_none.mpr fun r hr => by rw [hn r hr]; exact Bool.false_ne_true]
    have q2 := fun v H' (s : Same H2 H') h => q v H' (s2'.trans s) (by rw [ef]; exact h)
    generalize (fcGo (cf ks) d ((tab ks).map (·.1)).reverse fun _ => 0) = o at *
    cases o with
    | none => exact ⟨_, rfl, true, rfl, iteT (q2 .non H2 (Same.refl _) rfl)⟩
    | some L =>
      refine ⟨_, rfl, false, rfl, iteF ⟨_, rfl, by show 2 ≤ sizeLine; decide, fun t ht => q2 _ _ (same_new (Same.refl _) ht) ⟨t, rfl, upd_same⟩⟩⟩
def sp_obstacle (K : PySem.W.Frag) : Sp := fun vs H Q _ => ∃ (p : Addr) (n : Nat) (f : PF) (d : Nat), vs = [.ref p, nv d] ∧ MapAt K H p n f ∧ d ∈ degs ∧ ∀ v H', Same H H' → ObsV (obsF (lc n f) (lh n f) d) v H' → Q v H'
theorem degs_le {d : Nat} (h : d ∈ degs) : 1 ≤ d ∧ d ≤ 12 := by
  have : ∀ d ∈ degs, 1 ≤ d ∧ d ≤ 12 := by decide
  exact this d h
theorem ok_obstacle (T : Txt K mg base) : Okd P w K mg base 6 (a_obstacle K) (sp_obstacle K) := by
  refine okd (d := d_obstacle) T 45 rfl rfl sc_obstacle (fun _ _ _ _ _ _ us hl => match us, hl with | [_, _], _ => rfl) (fun vs H Q E h => ?_) (fun cdv A outer s H vs Q E hr h => ?_)
  · obtain ⟨p, n, f, d, rfl, _⟩ := h; rfl
  obtain ⟨p, n, f, d, rfl, m, hd, q⟩ := h
  obtain ⟨d1, d2⟩ := degs_le hd
  refine ⟨_, (pss_cons (ps_expr (pe_cD (ok_check_map T) (hr.mono (by decide)) T.g_check_map (pa_cons (pv 0) pa_nil)))
      (pss_cons (ps_expr (pe_cD (ok_check_degree T) (hr.mono (by decide)) T.g_check_degree (pa_cons (pv 1) pa_nil)))
      (pss_one (ps_ret (pe_cD (ok_obstacle_of T) (hr.mono (by decide)) T.g_obstacle_of (pa_cons (pe_cD (ok_shape_of T) (hr.mono (by decide)) T.g_shape_of (pa_cons (pv 0) pa_nil)) (pa_cons (pv 1) pa_nil))))))), ?_⟩
  exact ⟨_, rfl, p, n, f, rfl, m, _, rfl, d, rfl, d1, d2, _, rfl, p, n, f, rfl, m, fun x H1 hx s1 sh => ⟨_, rfl, x, _, _, d, rfl, sh, d1, d2, fun L l1 l2 => (gsz_ok d hd L l2 l1).1, fun v H2 s2 o => q v H2 (s1.trans s2) o⟩⟩
end
end K35
end

section
set_option Elab.async false
set_option linter.all false
set_option maxRecDepth 100000
set_option maxHeartbeats 4000000
/-! W14: roots. -/
namespace K35
open PySem PySem.Spec PyProof.Rows L2 CM
theorem merge_dv : ∀ (qs ps : List (Nat × V)), ((ps ++ qs).map (·.1)).Nodup → mergeK (dv ps) (dv qs) = dv (ps ++ qs)
  | [], ps, _ => by rw [List.append_nil]; rfl
  | (a, v) :: qs, ps, h => by
    show mergeK (putK (dv ps) (nk a) v) (dv qs) = _
    have na : a ∉ ps.map (·.1) := fun hm => by
      rw [List.map_append, List.nodup_append] at h
      exact h.2.2 a hm a List.mem_cons_self rfl
    have e : ps ++ (a, v) :: qs = (ps ++ [(a, v)]) ++ qs := by rw [List.append_assoc]; rfl
    rw [put_new v na, e]
    exact merge_dv qs (ps ++ [(a, v)]) (by rw [← e]; exact h)
theorem merge_dk {ps qs : List (Nat × Nat)} (h : ((ps ++ qs).map (·.1)).Nodup) : mergeK (dk ps) (dk qs) = dk (ps ++ qs) := by
  rw [dk, dk, merge_dv, dk, iv, iv, iv, List.map_append]
  rw [← List.map_append, List.map_map]
  exact h
theorem zip_dk (xs ys : List Nat) : (xs.map nk).zip (li ys) = dk (xs.zip ys) := by
  rw [dk, dv, iv, li, List.map_map, List.zip_map]; rfl
theorem keys_li (xs : List Nat) : (xs.map nk).map kV = li xs := by rw [List.map_map]; rfl
/-- groups of rows stand at a -/
def GroupsAt (H : Hp) (a : Addr) (gss : List (List (List Nat))) : Prop := ∃ qs : List (Addr × List (List Nat)), qs.map (·.2) = gss ∧ H a = some (.lst (qs.map fun q => V.ref q.1)) ∧ ∀ q ∈ qs, RowsAt H q.1 q.2
theorem RowsAt.st {H : Hp} {a b : Addr} {xss : List (List Nat)} {o : HO} (r : RowsAt H a xss) (n : ∀ xs, H b ≠ some (.lst xs)) : RowsAt (upd H b o) a xss := by
  obtain ⟨qs, h1, h2, h3⟩ := r
  have ne : ∀ {c : Addr} {xs : List V}, H c = some (.lst xs) → c ≠ b := fun {c xs} h e => n xs (e ▸ h)
  exact ⟨qs, h1, by rw [upd_ne (ne h2)]; exact h2, fun q hq => by rw [LiAt, upd_ne (ne (h3 q hq))]; exact h3 q hq⟩
section
variable {P : Program} {w : World} {K : PySem.W.Frag} {mg : Str → Option Value} {base : Heap}
/-- places filled -/
def vnat : V → Nat
  | .int i => i.toNat
  | _ => 0
def sp_cycle_root : Sp := fun vs H Q _ => ∃ (a : Addr) (d g L : Nat) (xss : List (List Nat)), vs = [.ref a, nv d] ∧ RowsAt H a xss ∧ xss.length = g ∧ (∀ xs ∈ xss, xs.length = L) ∧ 0 < g ∧ 0 < L ∧ g * L ≤ 12 ∧ d ≤ 12 ∧ posB g L d = true ∧ xss.flatten.Nodup ∧
  ∀ e H' ps, H e = none → Same H H' → H' e = some (.dK (dk ps)) → Tb 0 xss.flatten ps → Q (.ref e) H'
theorem ok_cycle_root (T : Txt K mg base) : Okd P w K mg base 1 (a_cycle_root K) sp_cycle_root := by
  refine okd (d := d_cycle_root) T 46 rfl rfl sc_cycle_root (fun _ _ _ _ _ _ us hl => match us, hl with | [_, _], _ => rfl) (fun vs H Q E h => ?_) (fun cdv A outer s H vs Q E hr h => ?_)
  · obtain ⟨a, d, g, L, xss, rfl, _⟩ := h; rfl
  obtain ⟨a, d, g, L, xss, rfl, ⟨qs, eq, ha, hq⟩, lg, lL, g0, L0, gL, d2, pb, nd, q⟩ := h
  have lq : qs.length = g := by rw [← lg, ← eq, List.length_map]
  have at0 : ∃ c xs, qs[0]? = some (c, xs) := ⟨_, _, List.getElem?_eq_getElem (by omega)⟩
  obtain ⟨c0, xs0, e0⟩ := at0
  have l0 : xs0.length = L := lL xs0 (by rw [← eq]; exact List.mem_map.mpr ⟨_, List.mem_of_getElem? e0, rfl⟩)
  have hc0 : LiAt H c0 xs0 := hq _ (List.mem_of_getElem? e0)
  have gle : g ≤ 12 := by
    have := Nat.le_mul_of_pos_right g L0; omega
  have Lle : L ≤ 12 := by
    have := Nat.le_mul_of_pos_left L g0; omega
  have N0 : 0 < g * L := Nat.mul_pos g0 L0
  refine ⟨_, (pss_cons (ps_set (i := 2) sc_cycle_root.nd rfl (Or.inl rfl) (pe_op op_mul (pe_callB call_len_seq rfl T.f_len (by decide +kernel) (pa_cons (pv 0) pa_nil)) (pe_callB call_len_seq rfl T.f_len (by decide +kernel) (pa_cons (pe_ix ix_list (pv 0) pe_int (fun _ _ => rfl)) pa_nil))))
      (pss_cons (ps_set (i := 3) sc_cycle_root.nd rfl (Or.inl rfl) (pe_op op_rep (pe_lst (pa_cons pe_non pa_nil)) (pv 2)))
      (pss_cons (ps_for PassesOwn.never rfl (pi_enum rfl T.f_enumerate (pa_cons (pv 0) pa_nil)) (pg_tup rfl (pgs_cons (pg_name (i := 4) sc_cycle_root.nd rfl (Or.inl rfl)) (pgs_cons (pg_name (i := 5) sc_cycle_root.nd rfl (Or.inl rfl)) pgs_nil)))
      (pss_one (ps_for PassesOwn.never rfl (pi_enum rfl T.f_enumerate (pa_cons (pv 5) pa_nil)) (pg_tup rfl (pgs_cons (pg_name (i := 6) sc_cycle_root.nd rfl (Or.inl rfl)) (pgs_cons (pg_name (i := 7) sc_cycle_root.nd rfl (Or.inl rfl)) pgs_nil)))
      (pss_one (ps_asg (pv 7) (pg_sub (pv 3) (pe_op op_mod (pe_op op_add (pv 4) (pe_op op_mul (pv 6) (pv 1))) (pv 2)) set_list))))))
      (pss_one (ps_ret (pe_dzipS rfl rfl T.f_dict rfl T.f_zip (pa_cons (pv 3) (pa_cons (pe_op op_cat (pe_slice sl_list (pv 3) (po_some pe_int) po_none) (pe_slice sl_list (pv 3) po_none (po_some pe_int))) pa_nil)))))))), ?_⟩
  have eN : V.int (((qs.map fun q => V.ref q.1).length : Int) * ((li xs0).length : Int)) = nv (g * L) := by
    rw [List.length_map, lq, li_length, l0, ← Int.natCast_mul]
  refine ⟨_, rfl, a, _, rfl, .inl (SqL.of ha), _, rfl, a, _, 0, _, rfl, rfl, SqL.of ha, atI_nat (j := 0) (show (qs.map fun q => V.ref q.1)[0]? = some (.ref c0) by rw [List.getElem?_map, e0]; rfl), c0, _, rfl, .inl (SqL.of hc0), _, _, rfl, rfl, .inl ⟨?_, ?_⟩, ?_⟩
  · rw [List.length_map]; omega
  · rw [List.length_map]; omega
  dsimp only
  rw [eN]
  refine ⟨by show 1 ≤ sizeLine; decide, fun aN hN => ⟨_, rfl, aN, _, _, rfl, rfl, upd_same, by omega, by omega, ?_, fun aP hP => ?_⟩⟩
  · rw [Int.toNat_natCast]
    show 1 * (g * L) ≤ sizeLine
    have := small12 (show g * L ≤ 1000 by omega)
    omega
  rw [Int.toNat_natCast]
  have e1 : (List.replicate (g * L) [V.non]).flatten = List.replicate (g * L) V.non := by simp
  rw [e1]
  have sN := same_new (o := .lst [V.non]) (Same.refl H) hN
  have sP := same_new (o := .lst (List.replicate (g * L) V.non)) sN hP
  have hP0 : H aP = none := sN.free hP
  have p1 : (upd (upd H aN (.lst [V.non])) aP (.lst (List.replicate (g * L) V.non))) aP = some (.lst (List.replicate (g * L) V.non)) := upd_same
  generalize upd (upd H aN (.lst [V.non])) aP (.lst (List.replicate (g * L) V.non)) = H1 at sP p1
  clear hP sN
  refine ⟨_, rfl, a, _, rfl, SqL.of (sP _ _ ha), ?_⟩
  have wO := walk_enum (K := K) (a := a) (xs := qs.map fun q => V.ref q.1)
  rw [List.length_map] at wO
  let good : Nat → Nat → List V → Prop := fun i j ps => ps.length = g * L ∧ ∀ s t x, (s < i ∨ (s = i ∧ t < j)) → (xss[s]?.bind fun xs => xs[t]?) = some x → ps[(s + t * d) % (g * L)]? = some (nv x)
  refine for_it wO (fun i σ H' => ∃ o4 o5 o6 o7 ps, σ = [some (.ref a), some (nv d), some (nv (g * L)), some (.ref aP), o4, o5, o6, o7] ∧ Same H H' ∧ H' aP = some (.lst ps) ∧ good i 0 ps)
    ⟨none, none, none, none, _, rfl, sP, p1, by rw [List.length_replicate], fun s t x h => by omega⟩ (fun i σ H' _ ⟨_, _, _, _, _, _, s, _⟩ => SqL.of (s _ _ ha)) ?_ ?_
  · rintro i v σ H' H'' hi ⟨o4, o5, o6, o7, ps, rfl, s, hp, gd⟩ ⟨U, x, y, rfl, hU, rfl, e1, e2⟩
    have ei := List.getElem?_eq_getElem hi
    have em := List.getElem_mem hi
    have ex : xss[i]? = some qs[i].2 := by rw [← eq, List.getElem?_map, ei]; rfl
    have e1 : some (V.int (i : Nat)) = some x := e1
    have e2 : (qs.map fun q => V.ref q.1)[i]? = some y := e2
    rw [List.getElem?_map, ei] at e2
    cases e1
    cases e2
    have hl := hq _ em
    generalize qs[i] = pr at *
    obtain ⟨c, xs⟩ := pr
    have ex : xss[i]? = some xs := ex
    have hl : H c = some (.lst (li xs)) := hl
    have ll : xs.length = L := lL xs (List.mem_of_getElem? ex)
    have sU := same_new (o := .tup [V.int (i : Nat), V.ref c]) s hU
    have pU : (upd H' U (.tup [V.int (i : Nat), V.ref c])) aP = some (.lst ps) := by rw [upd_ne (ne_of_none hp hU)]; exact hp
    refine ⟨U, _, rfl, SqT.of upd_same, rfl, _, _, rfl, _, _, rfl, rfl, ?_⟩
    refine ⟨_, rfl, c, _, rfl, SqL.of (sU _ _ hl), ?_⟩
    refine for_it walk_enumN (fun j σ H' => ∃ o6 o7 ps, σ = [some (.ref a), some (nv d), some (nv (g * L)), some (.ref aP), some (nv i), some (.ref c), o6, o7] ∧ Same H H' ∧ H' aP = some (.lst ps) ∧ good i j ps)
      ⟨o6, o7, ps, rfl, sU, pU, gd⟩ (fun j σ H' _ ⟨_, _, _, _, s, _⟩ => SqL.of (s _ _ hl)) ?_ ?_
    · rintro j v σ Ha Hb hj ⟨p6, p7, ps', rfl, t, tp, gl, gd'⟩ ⟨T, x, rfl, hT, rfl, exj⟩
      have tT := same_new (o := .tup [nv j, nv x]) t hT
      have tp' : (upd Ha T (.tup [nv j, nv x])) aP = some (.lst ps') := by rw [upd_ne (ne_of_none tp hT)]; exact tp
      refine ⟨T, _, rfl, SqT.of upd_same, rfl, _, _, rfl, _, _, rfl, rfl, ?_⟩
      have ep : ((i : Int) + (j : Int) * (d : Int)) % ((g * L : Nat) : Int) = (((i + j * d) % (g * L) : Nat) : Int) := by
        rw [← Int.natCast_mul, ← Int.natCast_add]; exact toNat_mod
      have pl : (i + j * d) % (g * L) < g * L := Nat.mod_lt _ N0
      refine ⟨_, rfl, _, rfl, _, rfl, _, rfl, _, rfl, _, _, rfl, rfl, .inl ⟨by omega, by omega⟩, _, _, rfl, rfl, _, rfl, _, _, rfl, rfl, by show (0 : Int) < ((g * L : Nat) : Int); omega, ?_⟩
      refine ⟨aP, ps', _, (i + j * d) % (g * L), rfl, rfl, tp', ?_, ?_⟩
      · rw [ep]
        unfold ixN
        rw [if_pos (by omega), if_pos (by rw [gl]; omega)]
        exact congrArg some (Int.toNat_natCast _)
      · refine ⟨_, _, _, rfl, same_at tT hP0, upd_same, by rw [List.length_set]; exact gl, fun s' t' x' hst hx' => ?_⟩
        have sl : s' < g := by
          cases es : xss[s']? with
          | none => rw [es] at hx'; cases hx'
          | some z => have := (List.getElem?_eq_some_iff.mp es).1; omega
        have tl : t' < L := by
          cases es : xss[s']? with
          | none => rw [es] at hx'; cases hx'
          | some z =>
            rw [es] at hx'
            have h1 := (List.getElem?_eq_some_iff.mp (show z[t']? = some x' from hx')).1
            have h2 := lL z (List.mem_of_getElem? es)
            omega
        by_cases same : s' = i ∧ t' = j
        · obtain ⟨rfl, rfl⟩ := same
          rw [ex] at hx'
          have hx' : xs[t']? = some x' := hx'
          rw [exj] at hx'
          cases hx'
          rw [List.getElem?_set_self (by rw [gl]; exact pl)]
        · rw [List.getElem?_set_ne (fun z => same (by
            have := posB_inj pb (show i < g by omega) (show j < L by omega) sl tl z
            exact ⟨this.1.symm, this.2.symm⟩))]
          exact gd' s' t' x' (by omega) hx'
    · rintro σ Ha ⟨p6, p7, ps', rfl, t, tp, gl, gd'⟩
      refine ⟨_, _, _, _, ps', rfl, t, tp, gl, fun s' t' x' hst hx' => gd' s' t' x' ?_ hx'⟩
      have hsi : s' < i ∨ s' = i := by omega
      rcases hsi with h | h
      · exact .inl h
      · subst h
        rw [ex] at hx'
        exact .inr ⟨rfl, (List.getElem?_eq_some_iff.mp (show xs[t']? = some x' from hx')).1⟩
  · rintro σ H2 ⟨o4, o5, o6, o7, ps, rfl, s2, hp, pl, gd⟩
    -- all places are filled
    have all_ : ∀ i, i < g * L → ∃ s t xs x, s < g ∧ t < L ∧ (s + t * d) % (g * L) = i ∧ xss[s]? = some xs ∧ xs[t]? = some x ∧ ps[i]? = some (nv x) := fun i hi => by
      obtain ⟨s', t', hs', ht', e⟩ := places_all pb N0 hi
      have es := List.getElem?_eq_getElem (show s' < xss.length by omega)
      have el := lL _ (List.getElem_mem (show s' < xss.length by omega))
      have et := List.getElem?_eq_getElem (show t' < (xss[s']'(by omega)).length by omega)
      refine ⟨s', t', _, _, hs', ht', e, es, et, ?_⟩
      rw [← e]
      exact gd s' t' _ (by omega) (by rw [es]; exact et)
    have el : ps = li (ps.map vnat) := by
      rw [li, List.map_map]
      refine List.ext_getElem? fun i => ?_
      rw [List.getElem?_map]
      by_cases hi : i < g * L
      · obtain ⟨_, _, _, x, _, _, _, _, _, e⟩ := all_ i hi
        rw [e]
        show some (nv x) = some (nv (vnat (nv x)))
        show some (nv x) = some (nv (Int.toNat (x : Int)))
        rw [Int.toNat_natCast]
      · rw [List.getElem?_eq_none (by omega)]; rfl
    have mem : ∀ x ∈ ps.map vnat, x ∈ xss.flatten := fun x hx => by
      obtain ⟨i, ei⟩ := List.mem_iff_getElem?.mp hx
      rw [List.getElem?_map] at ei
      obtain ⟨v, hv, rfl⟩ := Option.map_eq_some_iff.mp ei
      obtain ⟨_, _, xs, x, _, _, _, h1, h2, e⟩ := all_ i (by have := (List.getElem?_eq_some_iff.mp hv).1; omega)
      rw [hv] at e
      cases e
      show Int.toNat (x : Int) ∈ _
      rw [Int.toNat_natCast]
      exact List.mem_flatten.mpr ⟨xs, List.mem_of_getElem? h1, List.mem_of_getElem? h2⟩
    have pn : (ps.map vnat).Nodup := by
      refine nodup_of_get fun i j y ei ej => ?_
      rw [List.getElem?_map] at ei ej
      obtain ⟨v, hv, rfl⟩ := Option.map_eq_some_iff.mp ei
      obtain ⟨v', hv', e⟩ := Option.map_eq_some_iff.mp ej
      obtain ⟨s1, t1, xs1, x1, _, _, q1, a1, b1, c1⟩ := all_ i (by have := (List.getElem?_eq_some_iff.mp hv).1; omega)
      obtain ⟨s2', t2, xs2, x2, _, _, q2, a2, b2, c2⟩ := all_ j (by have := (List.getElem?_eq_some_iff.mp hv').1; omega)
      rw [c1] at hv
      rw [c2] at hv'
      cases hv
      cases hv'
      have e : Int.toNat (x2 : Int) = Int.toNat (x1 : Int) := e
      rw [Int.toNat_natCast, Int.toNat_natCast] at e
      subst e
      have same := row_unique nd (List.mem_of_getElem? a1) (List.mem_of_getElem? a2) (List.mem_of_getElem? b1) (List.mem_of_getElem? b2)
      subst same
      have xn : xs1.Nodup := nd.sublist (List.sublist_flatten_of_mem (List.mem_of_getElem? a1))
      have ht := nodup_get xn b1 b2
      have hs := (hmL_at nd _ _ a1 _ (List.mem_of_getElem? b1)).symm.trans (hmL_at nd _ _ a2 _ (List.mem_of_getElem? b2))
      subst ht
      subst hs
      omega
    rw [el] at hp
    have pll : (ps.map vnat).length ≤ 12 := by rw [List.length_map]; omega
    generalize ps.map vnat = pp at *
    refine ⟨_, rfl, _, rfl, 1, rfl, aP, _, rfl, SqL.of hp, fun b1 hb1 => ?_⟩
    rw [show cutV (li pp) (some 1) none = li (pp.drop 1) from (cut_from _ 1).trans (by rw [li, li, List.map_drop])]
    have k1 := same_new (o := .lst (li (pp.drop 1))) (Same.refl H2) hb1
    refine ⟨_, rfl, 1, rfl, aP, _, rfl, SqL.of (k1 _ _ hp), fun b2 hb2 => ?_⟩
    rw [show cutV (li pp) none (some 1) = li (pp.take 1) from (cut_to _ 1).trans (by rw [li, li, List.map_take])]
    have k2 := same_new (o := .lst (li (pp.take 1))) k1 hb2
    have n12 : b1 ≠ b2 := ne_of_none upd_same hb2
    refine ⟨b1, b2, _, _, rfl, rfl, by rw [upd_ne n12, upd_same], upd_same, ?_, fun b3 hb3 => ?_⟩
    · rw [li_length, li_length, List.length_drop, List.length_take]
      exact Nat.le_of_lt (small12 (by omega))
    rw [show li (pp.drop 1) ++ li (pp.take 1) = li (pp.drop 1 ++ pp.take 1) from by rw [li, li, li, List.map_append]]
    have k3 := same_new (o := .lst (li (pp.drop 1 ++ pp.take 1))) k2 hb3
    refine ⟨aP, b3, pp.map nk, _, rfl, SqL.of (by rw [keys_li]; exact k3 _ _ hp), SqL.of upd_same, fun _ => ?_, ?_, fun e he => ?_⟩
    · rw [li_length, List.length_map, List.length_append, List.length_drop, List.length_take]; omega
    · rw [List.length_map]; exact Nat.le_of_lt (small12 (by omega))
    rw [zip_dk]
    have tb := tb_cyc (n := 0) pn
    rw [show mergeK [] (dk (pp.zip (pp.drop 1 ++ pp.take 1))) = dk (pp.zip (pp.drop 1 ++ pp.take 1)) from merge_dk (ps := []) tb.kn]
    have s4 := s2.trans k3
    exact q e _ _ (s4.free he) (s4.trans (same_new (Same.refl _) he)) upd_same (tb.mono mem)
end
end K35
end

section
set_option Elab.async false
set_option linter.all false
set_option maxRecDepth 100000
set_option maxHeartbeats 4000000
/-! W15: chain_root, chain_groups, root. -/
namespace K35
open PySem PySem.Spec PyProof.Rows L2 CM
/-- rows that stand at a, none of their lists at D -/
def RowsN (H : Hp) (a : Addr) (xss : List (List Nat)) (D : Addr) : Prop := ∃ qs : List (Addr × List Nat), qs.map (·.2) = xss ∧ H a = some (.lst (qs.map fun q => V.ref q.1)) ∧ a ≠ D ∧ ∀ q ∈ qs, LiAt H q.1 q.2 ∧ q.1 ≠ D
theorem RowsN.same {H H' : Hp} {a D : Addr} {xss : List (List Nat)} (r : RowsN H a xss D) (s : ∀ b o, H b = some o → b ≠ D → H' b = some o) : RowsN H' a xss D := by
  obtain ⟨qs, h1, h2, h3, h4⟩ := r
  exact ⟨qs, h1, s _ _ h2 h3, h3, fun q hq => ⟨s _ _ (h4 q hq).1 (h4 q hq).2, (h4 q hq).2⟩⟩
theorem RowsN.rows {H : Hp} {a D : Addr} {xss : List (List Nat)} (r : RowsN H a xss D) : RowsAt H a xss := by
  obtain ⟨qs, h1, h2, h3, h4⟩ := r
  exact ⟨qs, h1, h2, fun q hq => (h4 q hq).1⟩
theorem RowsAt.n {H : Hp} {a D : Addr} {xss : List (List Nat)} (r : RowsAt H a xss) (hD : H D = none) : RowsN H a xss D := by
  obtain ⟨qs, h1, h2, h3⟩ := r
  exact ⟨qs, h1, h2, ne_of_none h2 hD, fun q hq => ⟨h3 q hq, ne_of_none (h3 q hq) hD⟩⟩
theorem RowsAt.rev {H : Hp} {a : Addr} {xss : List (List Nat)} (r : RowsAt H a xss) : ∃ ys, H a = some (.lst ys) ∧ ∀ p, H p = none → RowsAt (upd H p (.lst ys.reverse)) p xss.reverse := by
  obtain ⟨qs, h1, h2, h3⟩ := r
  refine ⟨_, h2, fun p hp => ⟨qs.reverse, by rw [List.map_reverse, h1], by rw [upd_same, List.map_reverse], fun q hq => ?_⟩⟩
  have h := h3 q (List.mem_reverse.mp hq)
  exact same_new (Same.refl _) hp _ _ h
/-- a slice of rows -/
theorem RowsN.cut {H : Hp} {a D : Addr} {xss : List (List Nat)} (r : RowsN H a xss D) (hD : ∃ o, H D = some o) : ∃ ys, H a = some (.lst ys) ∧ ys.length = xss.length ∧ (∀ (k : Nat) p, H p = none → RowsN (upd H p (.lst (cutV ys none (some (k : Int))))) p (xss.take k) D ∧ RowsN (upd H p (.lst (cutV ys none (some (k : Int))))) a xss D) ∧
    (∀ (k : Nat) p, H p = none → RowsN (upd H p (.lst (cutV ys (some (k : Int)) none))) p (xss.drop k) D) ∧ ∀ r0 rest, xss = r0 :: rest → ∃ c, ys[0]? = some (.ref c) ∧ LiAt H c r0 := by
  obtain ⟨qs, h1, h2, h3, h4⟩ := r
  obtain ⟨o, ho⟩ := hD
  refine ⟨_, h2, by rw [← h1, List.length_map, List.length_map], fun k p hp => ?_, fun k p hp => ?_, fun r0 rest e => ?_⟩
  · have npD : p ≠ D := (ne_of_none ho hp).symm
    have s := same_new (o := .lst (cutV (qs.map fun q => V.ref q.1) none (some (k : Int)))) (Same.refl H) hp
    refine ⟨⟨qs.take k, by rw [List.map_take, h1], by rw [upd_same, cut_to, List.map_take], npD, fun q hq => ?_⟩, ⟨qs, h1, s _ _ h2, h3, fun q hq => ⟨s _ _ (h4 q hq).1, (h4 q hq).2⟩⟩⟩
    have h := h4 q (List.mem_of_mem_take hq)
    exact ⟨s _ _ h.1, h.2⟩
  · have npD : p ≠ D := (ne_of_none ho hp).symm
    have s := same_new (o := .lst (cutV (qs.map fun q => V.ref q.1) (some (k : Int)) none)) (Same.refl H) hp
    refine ⟨qs.drop k, by rw [List.map_drop, h1], by rw [upd_same, cut_from, List.map_drop], npD, fun q hq => ?_⟩
    have h := h4 q (List.mem_of_mem_drop hq)
    exact ⟨s _ _ h.1, h.2⟩
  · cases qs with
    | nil => rw [e] at h1; cases h1
    | cons q qs =>
      rw [e] at h1
      have h5 : q.2 = r0 := by simpa using (List.cons.inj h1).1
      exact ⟨q.1, rfl, by rw [← h5]; exact (h4 q List.mem_cons_self).1⟩
section
variable {P : Program} {w : World} {K : PySem.W.Frag} {mg : Str → Option Value} {base : Heap}
def sp_chain_root : Sp := fun vs H Q _ => ∃ (a : Addr) (xss : List (List Nat)), vs = [.ref a] ∧ RowsAt H a xss ∧ xss ≠ [] ∧ xss.length ≤ 100 ∧ xss.flatten.length ≤ 100 ∧ xss.flatten.Nodup ∧
  ∀ e H' ps, H e = none → Same H H' → H' e = some (.dK (dk ps)) → Tb 0 xss.flatten ps → Q (.ref e) H'
theorem ok_chain_root (T : Txt K mg base) : Okd P w K mg base 1 (a_chain_root K) sp_chain_root := by
  refine okd (d := d_chain_root) T 47 rfl rfl sc_chain_root (fun _ _ _ _ _ _ us hl => match us, hl with | [_], _ => rfl) (fun vs H Q E h => ?_) (fun cdv A outer s H vs Q E hr h => ?_)
  · obtain ⟨a, xss, rfl, _⟩ := h; rfl
  obtain ⟨a, xss, rfl, ⟨qs, eq, ha, hq⟩, ne, lx, lf, nd, q⟩ := h
  have lq : qs.length = xss.length := by rw [← eq, List.length_map]
  have x0 : 0 < xss.length := by cases xss with
    | nil => exact absurd rfl ne
    | cons _ _ => simp
  obtain ⟨c0, xs0, e0⟩ : ∃ c xs, qs[0]? = some (c, xs) := ⟨_, _, List.getElem?_eq_getElem (by omega)⟩
  have hc0 : LiAt H c0 xs0 := hq _ (List.mem_of_getElem? e0)
  have rowlen : ∀ xs ∈ xss, xs.length ≤ 100 := fun xs hx => by
    have := (List.sublist_flatten_of_mem hx).length_le
    omega
  have hx0 : xs0 ∈ xss := by rw [← eq]; exact List.mem_map.mpr ⟨_, List.mem_of_getElem? e0, rfl⟩
  refine ⟨_, (pss_cons (ps_set (i := 1) sc_chain_root.nd rfl (Or.inl rfl) (pe_lst pa_nil))
      (pss_cons (ps_for PassesOwn.never rfl (pi_range1 rfl T.f_range (pa_cons (pe_callB call_len_seq rfl T.f_len (by decide +kernel) (pa_cons (pe_ix ix_list (pv 0) pe_int (fun _ _ => rfl)) pa_nil)) pa_nil)) (pg_name (i := 2) sc_chain_root.nd rfl (Or.inr rfl))
      (pss_one (ps_expr (pe_bm PySem.F.plainAttrs_list PySem.F.slot_list_extend PySem.F.type_list_extend mt_extend (pv 1) (pa_cons (pe_lc (own := [("chain", 3)]) rfl sc_chain_root.nd (pi_list (pv 0)) (blkOk_by (N := N_chain_root) (sc := defScope s_chain_root) (by decide +kernel)) (fun _ _ _ _ _ => (pg_name (i := 3) sc_chain_root.nd rfl (Or.inl rfl))) (fun _ _ _ _ _ => (pts_one (pt_cmpR op_lt (pv 2) (pe_callB (lenK_seq (K := K) rfl) rfl T.f_len (by decide +kernel) (pa_cons (pv 3) pa_nil)) (nomark _)))) (fun _ _ _ _ _ => (pe_ix (ixK_list (K := K) rfl) (pv 3) (pv 2) (fun _ _ => rfl)))) pa_nil)))))
      (pss_one (ps_ret (pe_dzip rfl rfl T.f_dict rfl T.f_zip (pa_cons (pv 1) (pa_cons (pe_slice sl_list (pv 1) (po_some pe_int) po_none) pa_nil))))))), ?_⟩
  refine ⟨by show 0 ≤ sizeLine; decide, fun aP hP => ?_⟩
  have sP := same_new (o := .lst []) (Same.refl H) hP
  have h0 := rowlen xs0 hx0
  refine ⟨_, rfl, a, _, 0, _, rfl, rfl, SqL.of (sP _ _ ha), atI_nat (j := 0) (show (qs.map fun q => V.ref q.1)[0]? = some (.ref c0) by rw [List.getElem?_map, e0]; rfl), c0, _, rfl, .inl (SqL.of (sP _ _ hc0)), xs0.length, by rw [li_length], by omega, by omega, ?_⟩
  rw [Int.toNat_natCast]
  have bl : ∀ T, (byTurn xss T).length ≤ 100 := fun T => Nat.le_trans (nodup_sub (byTurn_nodup nd T) fun x hx => byTurn_sub hx) lf
  refine for_it walk_range0 (fun i σ H' => ∃ o2, σ = [some (.ref a), some (.ref aP), o2, none] ∧ Same H H' ∧ H' aP = some (.lst (li (byTurn xss i)))) ⟨none, rfl, sP, upd_same⟩ (fun _ _ _ _ _ => trivial) ?_ ?_
  · rintro t v σ H' H'' ht ⟨o2, rfl, s, hp⟩ ⟨rfl, rfl⟩
    have ha' := s _ _ ha
    refine ⟨_, rfl, .inl ⟨rfl, _, SqL.of hp⟩, _, rfl, a, rfl, ⟨_, SqL.of ha'⟩, ?_⟩
    refine lc_rows ha' (by intros; rfl) (fun q => (q.2[t]?).map nv) (by omega) (fun r H3 hr' s3 Q' q' => ?_) (fun r v H3 hr' e s3 Q' q' => ?_) fun D H3 s3 hD h3 => ?_
    · refine ⟨_, rfl, _, rfl, r.1, _, rfl, .inl (SqL.of (s3 _ _ (s _ _ (hq r hr')))), _, _, rfl, rfl, _, rfl, ?_⟩
      rw [Option.isSome_map] at q'
      show Q' (decide ((t : Int) < ((li r.2).length : Int))) H3
      rw [li_length]
      by_cases hlt : t < r.2.length
      · rw [decide_eq_true (by omega)]
        rw [List.getElem?_eq_getElem hlt] at q'; exact q'
      · rw [decide_eq_false (by omega)]
        rw [List.getElem?_eq_none (by omega)] at q'; exact q'
    · obtain ⟨x, hx, rfl⟩ := Option.map_eq_some_iff.mp e
      exact ⟨_, rfl, _, rfl, r.1, _, _, nv x, rfl, rfl, SqL.of (s3 _ _ (s _ _ (hq r hr'))), atI_li hx, q'⟩
    · have ef : qs.filterMap (fun q => (q.2[t]?).map nv) = li (xss.filterMap fun xs => xs[t]?) := by
        rw [← eq, li, List.filterMap_map, List.map_filterMap]; rfl
      rw [ef] at h3
      have lb := bl (t + 1)
      rw [byTurn_succ, List.length_append] at lb
      refine ⟨aP, D, _, _, rfl, rfl, s3 _ _ hp, h3, by rw [li_length, li_length]; exact Nat.le_of_lt (small12 (by omega)), ?_⟩
      refine ⟨_, rfl, fun b o eb => ?_, ?_⟩
      · rw [upd_ne (ne_of_none eb hP)]; exact s3 _ _ (s _ _ eb)
      · rw [upd_same, byTurn_succ, li, li, li, List.map_append]
  · rintro σ H2 ⟨o2, rfl, s2, hp⟩
    have pn := byTurn_nodup nd xs0.length
    have mem : ∀ x ∈ byTurn xss xs0.length, x ∈ xss.flatten := fun x hx => byTurn_sub hx
    have pll := bl xs0.length
    generalize byTurn xss xs0.length = pp at *
    refine ⟨_, rfl, _, rfl, 1, rfl, aP, _, rfl, SqL.of hp, fun b1 hb1 => ?_⟩
    rw [show cutV (li pp) (some 1) none = li (pp.drop 1) from (cut_from _ 1).trans (by rw [li, li, List.map_drop])]
    have k1 := same_new (o := .lst (li (pp.drop 1))) (Same.refl H2) hb1
    refine ⟨aP, b1, pp.map nk, _, rfl, SqL.of (by rw [keys_li]; exact k1 _ _ hp), SqL.of upd_same, fun z => (by cases z), ?_, fun e he => ?_⟩
    · rw [List.length_map]; exact Nat.le_of_lt (small12 (by omega))
    rw [zip_dk]
    have tb := tb_open (n := 0) pn
    rw [show mergeK [] (dk (pp.zip (pp.drop 1))) = dk (pp.zip (pp.drop 1)) from merge_dk (ps := []) tb.kn]
    have s4 := s2.trans k1
    exact q e _ _ (s4.free he) (s4.trans (same_new (Same.refl _) he)) upd_same (tb.mono mem)
def sp_chain_groups : Sp := fun vs H Q _ => ∃ (a : Addr) (d : Nat) (xss : List (List Nat)), vs = [.ref a, nv d] ∧ RowsAt H a xss ∧ xss.length < 64 ∧ 1 ≤ d ∧ d ≤ 12 ∧ ∀ e H' gss, Same H H' → GroupsAt H' e gss → gss.flatten.Perm xss → (∀ g ∈ gss, g ≠ []) → Q (.ref e) H'
theorem ok_chain_groups (T : Txt K mg base) : Okd P w K mg base 2 (a_chain_groups K) sp_chain_groups := by
  refine okd (d := d_chain_groups) T 48 rfl rfl sc_chain_groups (fun _ _ _ _ _ _ us hl => match us, hl with | [_, _], _ => rfl) (fun vs H Q E h => ?_) (fun cdv A outer s H vs Q E hr h => ?_)
  · obtain ⟨a, d, xss, rfl, _⟩ := h; rfl
  obtain ⟨a, d, xss, rfl, hx, lx, d1, d2, q⟩ := h
  refine ⟨_, (pss_cons (ps_set (i := 2) sc_chain_groups.nd rfl (Or.inl rfl) (pe_revL (pe_cD (ok_by_length T) (hr.mono (by decide)) T.g_by_length (pa_cons (pv 0) pa_nil))))
      (pss_cons (ps_set (i := 3) sc_chain_groups.nd rfl (Or.inl rfl) (pe_lst pa_nil))
      (pss_cons (ps_while PassesOwn.never (pt_cmpR (op_neD hr.units) (pv 2) (pe_lst pa_nil) (nomark _)) (pss_cons (ps_set (i := 4) sc_chain_groups.nd rfl (Or.inl rfl) (pe_callB call_len_seq rfl T.f_len (by decide +kernel) (pa_cons (pe_ix ix_list (pv 2) pe_int (fun _ _ => rfl)) pa_nil)))
      (pss_cons (ps_expr (pe_bm PySem.F.plainAttrs_list PySem.F.slot_list_append PySem.F.type_list_append mt_append (pv 3) (pa_cons (pe_ifExp (pt_cmpR op_gt (pv 4) pe_int (nomark _)) (pe_slice sl_list (pv 2) po_none (po_some (pv 1))) (pe_slice sl_list (pv 2) po_none (po_some pe_int))) pa_nil)))
      (pss_one (ps_set (i := 2) sc_chain_groups.nd rfl (Or.inl rfl) (pe_slice sl_list (pv 2) (po_some (pe_callB call_len_seq rfl T.f_len (by decide +kernel) (pa_cons (pe_ix ix_list (pv 3) (pe_un un_neg pe_int) (fun _ _ => rfl)) pa_nil))) po_none))))))
      (pss_one (ps_ret (pv 3)))))), ?_⟩
  refine ⟨_, rfl, a, xss, rfl, hx, lx, fun l H1 yss hl s1 hy pm pw => ?_⟩
  obtain ⟨ys, hys, rv⟩ := hy.rev
  refine ⟨l, _, rfl, SqL.of hys, fun aL hL => ?_⟩
  have rL := rv aL hL
  have s2 := same_new (o := .lst ys.reverse) s1 hL
  have pm2 : yss.reverse.Perm xss := (List.reverse_perm yss).trans pm
  generalize upd H1 aL (.lst ys.reverse) = H2 at rL s2
  generalize yss.reverse = zss at rL pm2
  refine ⟨by show 0 ≤ sizeLine; decide, fun aG hG => ?_⟩
  have sG := same_new (o := .lst []) (Same.refl H2) hG
  have zl : zss.length < 64 := by rw [pm2.length_eq]; exact lx
  refine ⟨fun mm σ H' => ∃ aL o4 ls gs, σ = [some (.ref a), some (nv d), some (.ref aL), some (.ref aG), o4] ∧ (∀ b o, H2 b = some o → H' b = some o) ∧ RowsN H' aL ls aG ∧ (∃ qs : List (Addr × List (List Nat)), qs.map (·.2) = gs ∧ H' aG = some (.lst (qs.map fun q => V.ref q.1)) ∧ ∀ q ∈ qs, RowsN H' q.1 q.2 aG) ∧ gs.flatten ++ ls = zss ∧ mm = ls.length ∧ (∀ g ∈ gs, g ≠ []) ∧ gs.length + ls.length ≤ 64,
    ⟨zss.length, aL, none, zss, [], rfl, sG, (rL.n hG).same fun b o e _ => sG _ _ e, ⟨[], rfl, upd_same, fun _ h => (by cases h)⟩, rfl, rfl, fun _ h => (by cases h), by show 0 + zss.length ≤ 64; omega⟩, ?_⟩
  rintro mm σ H' ⟨aL, o4, ls, gs, rfl, s, rl, ⟨qs, eqs, hG', hqs⟩, efl, rfl, gne, glen⟩
  -- left != []
  refine ⟨_, rfl, by show 0 ≤ sizeLine; decide, fun aE hE => ?_⟩
  have sE := same_new (o := .lst []) (Same.refl H') hE
  have rl1 := rl.same (D := aG) fun b o e _ => sE b o e
  refine ⟨_, _, dp_rows rl1.rows, dp_nil upd_same, shaped_of (pR_lay ls), shaped_of (pR_lay []), _, rfl, ?_⟩
  rw [pR_nil]
  have hG1 := sE _ _ hG'
  have hqs1 : ∀ q ∈ qs, RowsN (upd H' aE (.lst [])) q.1 q.2 aG := fun q hq => (hqs q hq).same fun b o e _ => sE b o e
  have s1' : ∀ b o, H2 b = some o → (upd H' aE (.lst [])) b = some o := fun b o e => sE _ _ (s b o e)
  generalize upd H' aE (.lst []) = H3 at rl1 hG1 hqs1 s1'
  cases ls with
  | nil =>
    rw [decide_eq_true rfl]
    refine iteF ⟨_, rfl, q aG H3 gs (s2.trans s1') ⟨qs, eqs, hG1, fun q hq => (hqs1 q hq).rows⟩ ?_ gne⟩
    rw [List.append_nil] at efl
    rw [efl]; exact pm2
  | cons r0 rest =>
    rw [decide_eq_false (by simp)]
    refine iteT ⟨fun σ' H'' => ∃ mm' < (r0 :: rest).length, _, fun σ' H'' z => z, ?_⟩
    obtain ⟨ys1, hys1, ly1, cTo, cFrom, hd0⟩ := rl1.cut ⟨_, hG1⟩
    obtain ⟨c, hc, hcl⟩ := hd0 r0 rest rfl
    refine ⟨_, rfl, aL, _, 0, _, rfl, rfl, SqL.of hys1, atI_nat (j := 0) hc, c, _, rfl, .inl (SqL.of hcl), ?_⟩
    refine ⟨_, rfl, .inl ⟨rfl, _, SqL.of hG1⟩, _, rfl, _, _, rfl, rfl, _, rfl, ?_⟩
    have fin : ∀ (k : Nat), 1 ≤ k → ∀ (p : Addr) (H4 : Hp), H4 aG = some (.lst ((qs.map fun q => V.ref q.1) ++ [V.ref p])) → RowsN H4 p ((r0 :: rest).take k) aG → RowsN H4 aL (r0 :: rest) aG → (∀ q ∈ qs, RowsN H4 q.1 q.2 aG) → (∀ b o, H2 b = some o → H4 b = some o) → ∀ (o4 : Option V) (D : Ends),
        (∀ σ H', (∃ mm' < (r0 :: rest).length, ∃ aL o4 ls gs, σ = [some (.ref a), some (nv d), some (.ref aL), some (.ref aG), o4] ∧ (∀ b o, H2 b = some o → H' b = some o) ∧ RowsN H' aL ls aG ∧ (∃ qs : List (Addr × List (List Nat)), qs.map (·.2) = gs ∧ H' aG = some (.lst (qs.map fun q => V.ref q.1)) ∧ ∀ q ∈ qs, RowsN H' q.1 q.2 aG) ∧ gs.flatten ++ ls = zss ∧ mm' = ls.length ∧ (∀ g ∈ gs, g ≠ []) ∧ gs.length + ls.length ≤ 64) → D.nx σ H') →
        tAsg (tSl (rSlL K) (tVar 2) (tPart (tCB (fun xs H Q => ∃ p ys, xs = [.ref p] ∧ (SqL K H p ys ∨ SqT K H p ys) ∧ Q (.int ys.length) H) (tCons (tOp (rIxL K) (tVar 3) (tUn (rU fun i => V.int (-i)) (tC (V.int 1)))) tNil))) tNoPart) (gName 2) D [some (.ref a), some (nv d), some (.ref aL), some (.ref aG), o4] H4 := by
      intro k k1 p H4 hG4 rT rL hq4 s4 o4 D hD
      obtain ⟨ys2, hys2, ly2, _, cF2, _⟩ := rL.cut ⟨_, hG4⟩
      obtain ⟨yp, hyp, lyp, _⟩ := rT.cut ⟨_, hG4⟩
      refine ⟨_, rfl, _, rfl, 1, rfl, aG, _, _, .ref p, rfl, rfl, SqL.of hG4, atI_last _ _, p, yp, rfl, .inl (SqL.of hyp), _, rfl, aL, ys2, rfl, SqL.of hys2, fun aL2 hL2 => ?_⟩
      have rF := cF2 yp.length aL2 hL2
      have s5 := same_new (o := .lst (cutV ys2 (some (yp.length : Int)) none)) (Same.refl H4) hL2
      have yl : 1 ≤ yp.length ∧ yp.length ≤ (r0 :: rest).length := by
        rw [lyp, List.length_take, List.length_cons]; omega
      have ysp : (r0 :: rest).take k ++ (r0 :: rest).drop yp.length = r0 :: rest := by
        rw [lyp, List.length_take]
        by_cases h : k ≤ (r0 :: rest).length
        · rw [Nat.min_eq_left h, List.take_append_drop]
        · rw [Nat.min_eq_right (by omega), List.take_of_length_le (by omega), List.drop_length, List.append_nil]
      refine hD _ _ ⟨((r0 :: rest).drop yp.length).length, by rw [List.length_drop]; omega, aL2, o4, _, gs ++ [(r0 :: rest).take k], rfl, fun b o e => s5 _ _ (s4 b o e), rF, ⟨qs ++ [(p, (r0 :: rest).take k)], by rw [List.map_append, eqs]; rfl, by rw [s5 _ _ hG4, List.map_append]; rfl, fun q hq => ?_⟩, ?_, rfl, fun g hg => ?_, ?_⟩
      · rcases List.mem_append.mp hq with h | h
        · exact (hq4 q h).same fun b o e _ => s5 b o e
        · have : q = (p, (r0 :: rest).take k) := by simpa using h
          subst this
          exact rT.same fun b o e _ => s5 b o e
      · rw [List.flatten_append, List.append_assoc]
        show gs.flatten ++ ([(r0 :: rest).take k].flatten ++ _) = zss
        rw [show [(r0 :: rest).take k].flatten = (r0 :: rest).take k by simp, ysp]; exact efl
      · rcases List.mem_append.mp hg with h | h
        · exact gne g h
        · have : g = (r0 :: rest).take k := by simpa using h
          rw [this]
          intro e
          have h0 := congrArg List.length e
          rw [List.length_nil, ← lyp] at h0
          omega
      · rw [List.length_append, List.length_drop]
        show gs.length + 1 + _ ≤ 64
        omega
    have ql : (qs.map fun q => V.ref q.1).length < sizeLine := by
      rw [List.length_map]
      have := congrArg List.length eqs
      rw [List.length_map] at this
      rw [List.length_cons] at glen
      exact small12 (by omega)
    have put : ∀ (k : Nat), 1 ≤ k → ∀ (p : Addr), H3 p = none → ∀ (o4 : Option V) (D : Ends),
        (∀ σ H', (∃ mm' < (r0 :: rest).length, ∃ aL o4 ls gs, σ = [some (.ref a), some (nv d), some (.ref aL), some (.ref aG), o4] ∧ (∀ b o, H2 b = some o → H' b = some o) ∧ RowsN H' aL ls aG ∧ (∃ qs : List (Addr × List (List Nat)), qs.map (·.2) = gs ∧ H' aG = some (.lst (qs.map fun q => V.ref q.1)) ∧ ∀ q ∈ qs, RowsN H' q.1 q.2 aG) ∧ gs.flatten ++ ls = zss ∧ mm' = ls.length ∧ (∀ g ∈ gs, g ≠ []) ∧ gs.length + ls.length ≤ 64) → D.nx σ H') →
        rAppend (.ref aG) [.ref p] (upd H3 p (.lst (cutV ys1 none (some (k : Int))))) fun _ H4 =>
          tAsg (tSl (rSlL K) (tVar 2) (tPart (tCB (fun xs H Q => ∃ p ys, xs = [.ref p] ∧ (SqL K H p ys ∨ SqT K H p ys) ∧ Q (.int ys.length) H) (tCons (tOp (rIxL K) (tVar 3) (tUn (rU fun i => V.int (-i)) (tC (V.int 1)))) tNil))) tNoPart) (gName 2) D [some (.ref a), some (nv d), some (.ref aL), some (.ref aG), o4] H4 := by
      intro k k1 p hp o4 D hD
      obtain ⟨rT, rL2⟩ := cTo k p hp
      have s2' := same_new (o := .lst (cutV ys1 none (some (k : Int)))) (Same.refl H3) hp
      have hG2 := s2' _ _ hG1
      have hqs2 : ∀ q ∈ qs, RowsN (upd H3 p (.lst (cutV ys1 none (some (k : Int))))) q.1 q.2 aG := fun q hq => (hqs1 q hq).same fun b o e _ => s2' b o e
      have s3' : ∀ b o, H2 b = some o → (upd H3 p (.lst (cutV ys1 none (some (k : Int))))) b = some o := fun b o e => s2' _ _ (s1' b o e)
      generalize upd H3 p (.lst (cutV ys1 none (some (k : Int)))) = H5 at *
      have kp : ∀ b o, H5 b = some o → b ≠ aG → (upd H5 aG (.lst ((qs.map fun q => V.ref q.1) ++ [V.ref p]))) b = some o := fun b o e nb => by rw [upd_ne nb]; exact e
      exact ⟨aG, _, _, rfl, rfl, hG2, ql, fin k k1 p _ upd_same (rT.same kp) (rL2.same kp) (fun q hq => (hqs2 q hq).same kp) (fun b o e => kp b o (s3' b o e) (ne_of_none e hG)) o4 D hD⟩
    refine ite2 (fun _ => ?_) (fun _ => ?_)
    · exact ⟨_, rfl, _, rfl, d, rfl, aL, _, rfl, SqL.of hys1, fun p hp => put d d1 p hp _ _ fun _ _ z => z⟩
    · exact ⟨_, rfl, 1, rfl, aL, _, rfl, SqL.of hys1, fun p hp => put 1 (Nat.le_refl _) p hp _ _ fun _ _ z => z⟩
def sp_root (K : PySem.W.Frag) : Sp := fun vs H Q _ => ∃ (p : Addr) (n : Nat) (f : PF) (d : Nat), vs = [.ref p, nv d] ∧ MapAt K H p n f ∧ d ∈ degs ∧ (obsF (lc n f) (lh n f) d ≠ none → ∀ H', Same H H' → Q .non H') ∧ (obsF (lc n f) (lh n f) d = none → ∀ x H', Same H H' → (∃ F, MapAt K H' x n F) → Q (.ref x) H')
/-- rows in rising order: the first ones are as many as a group wants -/
theorem group_first {d : Nat} (hd : d ∈ degs) {r0 : List Nat} {rest : List (List Nat)} (pw : (r0 :: rest).Pairwise fun x y => x.length ≤ y.length) (dv : ∀ L ∈ (r0 :: rest).map List.length, ((r0 :: rest).map List.length).count L % gsz L d = 0) (h0 : 0 < r0.length) (h12 : r0.length ≤ 12) :
    (∀ xs ∈ (r0 :: rest).take (gsz r0.length d), xs.length = r0.length) ∧ gsz r0.length d ≤ (r0 :: rest).length ∧ (∀ L ∈ ((r0 :: rest).drop (gsz r0.length d)).map List.length, (((r0 :: rest).drop (gsz r0.length d)).map List.length).count L % gsz L d = 0) := by
  have g0 := (gsz_ok d hd r0.length h12 h0).1
  have pw' : ((r0 :: rest).map List.length).Pairwise (· ≤ ·) := by rw [List.pairwise_map]; exact pw
  have mn : ∀ x ∈ (r0 :: rest).map List.length, r0.length ≤ x := fun x hx => by
    rw [List.map_cons] at hx
    rcases List.mem_cons.mp hx with e | e
    · omega
    · rw [List.map_cons, List.pairwise_cons] at pw'
      exact pw'.1 x e
  have cp : 0 < ((r0 :: rest).map List.length).count r0.length := List.count_pos_iff.mpr (by rw [List.map_cons]; exact List.mem_cons_self)
  have dv0 := dv r0.length (by rw [List.map_cons]; exact List.mem_cons_self)
  have cg : gsz r0.length d ≤ ((r0 :: rest).map List.length).count r0.length := Nat.le_of_dvd cp (Nat.dvd_of_mod_eq_zero dv0)
  obtain ⟨h1, h2⟩ := take_same (gsz r0.length d) _ pw' mn cg
  rw [List.length_map] at h2
  refine ⟨fun xs hx => h1 _ (by rw [← List.map_take]; exact List.mem_map.mpr ⟨xs, hx, rfl⟩), h2, fun L hL => ?_⟩
  have hc : ((r0 :: rest).map List.length).count L = (((r0 :: rest).take (gsz r0.length d)).map List.length).count L + (((r0 :: rest).drop (gsz r0.length d)).map List.length).count L := by
    rw [← List.count_append, ← List.map_append, List.take_append_drop]
  have hLm : L ∈ (r0 :: rest).map List.length := by
    obtain ⟨xs, hx, e⟩ := List.mem_map.mp hL
    exact List.mem_map.mpr ⟨xs, List.mem_of_mem_drop hx, e⟩
  have dvL := dv L hLm
  by_cases e : L = r0.length
  · subst e
    have ht : (((r0 :: rest).take (gsz r0.length d)).map List.length).count r0.length = gsz r0.length d := by
      rw [List.map_take]
      have : ((r0 :: rest).map List.length).take (gsz r0.length d) = List.replicate (gsz r0.length d) r0.length := by
        rw [List.eq_replicate_iff]
        exact ⟨by rw [List.length_take, List.length_map]; omega, h1⟩
      rw [this, List.count_replicate_self]
    rw [hc, ht, Nat.add_mod_left] at dvL
    exact dvL
  · have ht : (((r0 :: rest).take (gsz r0.length d)).map List.length).count L = 0 := by
      rw [List.count_eq_zero, List.map_take]
      intro hm
      exact e (h1 L hm)
    rw [hc, ht, Nat.zero_add] at dvL
    exact dvL
end
end K35
end

section
set_option Elab.async false
set_option linter.all false
set_option maxRecDepth 100000
set_option maxHeartbeats 4000000
/-! W16: root. -/
namespace K35
open PySem PySem.Spec PyProof.Rows L2 CM
theorem sub_flat2 {α : Type} {gss : List (List (List α))} {xss : List (List α)} (h : xss ∈ gss) : xss.flatten.Sublist gss.flatten.flatten := by
  obtain ⟨l1, l2, rfl⟩ := List.append_of_mem h
  rw [List.flatten_append, List.flatten_cons, List.flatten_append, List.flatten_append]
  exact List.Sublist.trans (List.sublist_append_left _ _) (List.sublist_append_right _ _)
theorem tbz {n m : Nat} {S : List Nat} {ps : List (Nat × Nat)} (h : Tb n S ps) : Tb m S ps := ⟨h.kn, h.vn, h.ks, h.vs⟩
theorem RowsAt.cut {H : Hp} {a : Addr} {xss : List (List Nat)} (r : RowsAt H a xss) : ∃ ys, H a = some (.lst ys) ∧ ys.length = xss.length ∧ (∀ (k : Nat) p, H p = none → RowsAt (upd H p (.lst (cutV ys none (some (k : Int))))) p (xss.take k)) ∧
    (∀ (k : Nat) p, H p = none → RowsAt (upd H p (.lst (cutV ys (some (k : Int)) none))) p (xss.drop k)) ∧ ∀ r0 rest, xss = r0 :: rest → ∃ c, ys[0]? = some (.ref c) ∧ LiAt H c r0 := by
  obtain ⟨qs, h1, h2, h4⟩ := r
  refine ⟨_, h2, by rw [← h1, List.length_map, List.length_map], fun k p hp => ?_, fun k p hp => ?_, fun r0 rest e => ?_⟩
  · have s := same_new (o := .lst (cutV (qs.map fun q => V.ref q.1) none (some (k : Int)))) (Same.refl H) hp
    exact ⟨qs.take k, by rw [List.map_take, h1], by rw [upd_same, cut_to, List.map_take], fun q hq => s _ _ (h4 q (List.mem_of_mem_take hq))⟩
  · have s := same_new (o := .lst (cutV (qs.map fun q => V.ref q.1) (some (k : Int)) none)) (Same.refl H) hp
    exact ⟨qs.drop k, by rw [List.map_drop, h1], by rw [upd_same, cut_from, List.map_drop], fun q hq => s _ _ (h4 q (List.mem_of_mem_drop hq))⟩
  · cases qs with
    | nil => rw [e] at h1; cases h1
    | cons q qs =>
      rw [e] at h1
      have h5 : q.2 = r0 := by simpa using (List.cons.inj h1).1
      exact ⟨q.1, rfl, by rw [← h5]; exact h4 q List.mem_cons_self⟩
theorem RowsAt.keepD {H H' : Hp} {a aA : Addr} {xss : List (List Nat)} (r : RowsAt H a xss) (k : ∀ b o, H b = some o → b ≠ aA → H' b = some o) (hA : ∃ kvs, H aA = some (.dK kvs)) : RowsAt H' a xss := by
  obtain ⟨qs, h1, h2, h4⟩ := r
  obtain ⟨kvs, hA⟩ := hA
  exact ⟨qs, h1, k _ _ h2 (ne_of h2 hA (by intro z; cases z)), fun q hq => k _ _ (h4 q hq) (ne_of (h4 q hq) hA (by intro z; cases z))⟩
section
variable {P : Program} {w : World} {K : PySem.W.Frag} {mg : Str → Option Value} {base : Heap}
theorem ok_root (T : Txt K mg base) : Okd P w K mg base 7 (a_root K) (sp_root K) := by
  refine okd (d := d_root) T 49 rfl rfl sc_root (fun _ _ _ _ _ _ us hl => match us, hl with | [_, _], _ => rfl) (fun vs H Q E h => ?_) (fun cdv A outer s H vs Q E hr h => ?_)
  · obtain ⟨p, n, f, d, rfl, _⟩ := h; rfl
  obtain ⟨p, n, f, d, rfl, m, hd, q0, q1⟩ := h
  obtain ⟨dx, dd, h1, h2⟩ := m.ob
  obtain ⟨d1, d2⟩ := degs_le hd
  have n2 := m.n2
  have sh := Sh.of m.pi n2
  refine ⟨_, (pss_cons (ps_if (pt_cmp (pc_notN (pe_cD (ok_obstacle T) (hr.mono (by decide)) T.g_obstacle (pa_cons (pv 0) (pa_cons (pv 1) pa_nil)))) rfl) (pss_one (ps_ret pe_non)) pss_nil)
      (pss_cons (ps_asg (pe_cD (ok_parts_of T) (hr.mono (by decide)) T.g_parts_of (pa_cons (pv 0) pa_nil)) (pg_tup rfl (pgs_cons (pg_name (i := 2) sc_root.nd rfl (Or.inl rfl)) (pgs_cons (pg_name (i := 3) sc_root.nd rfl (Or.inl rfl)) pgs_nil))))
      (pss_cons (ps_par (i := 4) (j := 5) rfl sc_root.nd rfl rfl (by decide) rfl rfl (pa_cons pe_dnewK (pa_cons (pe_cD (ok_by_length T) (hr.mono (by decide)) T.g_by_length (pa_cons (pv 2) pa_nil)) pa_nil)) (by rfl))
      (pss_cons (ps_while PassesOwn.never (pt_cmpR (op_neD hr.units) (pv 5) (pe_lst pa_nil) (nomark _)) (pss_cons (ps_set (i := 6) sc_root.nd rfl (Or.inl rfl) (pe_slice sl_list (pv 5) po_none (po_some (pe_cD (ok_group_size T) (hr.mono (by decide)) T.g_group_size (pa_cons (pe_callB call_len_seq rfl T.f_len (by decide +kernel) (pa_cons (pe_ix ix_list (pv 5) pe_int (fun _ _ => rfl)) pa_nil)) (pa_cons (pv 1) pa_nil))))))
      (pss_cons (ps_set (i := 5) sc_root.nd rfl (Or.inl rfl) (pe_slice sl_list (pv 5) (po_some (pe_callB call_len_seq rfl T.f_len (by decide +kernel) (pa_cons (pv 6) pa_nil))) po_none))
      (pss_one (ps_expr (pe_bm PySem.F.plainAttrs_dict PySem.F.slot_dict_update PySem.F.type_dict_update mt_dupd (pv 4) (pa_cons (pe_cD (ok_cycle_root T) (hr.mono (by decide)) T.g_cycle_root (pa_cons (pv 6) (pa_cons (pv 1) pa_nil))) pa_nil)))))))
      (pss_cons (ps_for PassesOwn.never rfl (pi_list (pe_cD (ok_chain_groups T) (hr.mono (by decide)) T.g_chain_groups (pa_cons (pv 3) (pa_cons (pv 1) pa_nil)))) (pg_name (i := 6) sc_root.nd rfl (Or.inl rfl))
      (pss_one (ps_expr (pe_bm PySem.F.plainAttrs_dict PySem.F.slot_dict_update PySem.F.type_dict_update mt_dupd (pv 4) (pa_cons (pe_cD (ok_chain_root T) (hr.mono (by decide)) T.g_chain_root (pa_cons (pv 6) pa_nil)) pa_nil)))))
      (pss_one (ps_ret (pe_mkD (ok_Map_init T) T.mk_Map (hr.mono (by decide)) T.g_Map (pa_cons (pe_prD (ok_Map_size T) (hr.mono (by decide)) T.cl_Map T.p_Map_size (pv 0)) (pa_cons (pv 4) pa_nil)))))))))), ?_⟩
  refine ⟨_, rfl, _, rfl, p, n, f, d, rfl, m, hd, fun v H1 s1 ob => ?_⟩
  cases eo : obsF (lc n f) (lh n f) d with
  | some o =>
    rw [eo] at ob
    obtain ⟨b, L⟩ := o
    obtain ⟨t, rfl, ht⟩ := ob
    exact ⟨true, rfl, iteT (q0 (by rw [eo]; exact fun z => nomatch z) H1 s1)⟩
  | none =>
    rw [eo] at ob
    cases ob
    refine ⟨false, rfl, iteF ?_⟩
    have m1 := m.same s1
    refine ⟨_, rfl, p, n, f, rfl, m1, fun t ac ah H2 s2 ht rc rh => ?_⟩
    refine ⟨t, _, rfl, SqT.of ht, rfl, _, _, rfl, _, _, rfl, rfl, ?_⟩
    obtain ⟨c1, c2⟩ := cys_few m.pi
    have s12 := s1.trans s2
    intro aA hA
    have sA := same_new (o := .dK []) (Same.refl H2) hA
    refine ⟨_, rfl, ac, _, rfl, rc.same sA, by omega, fun l H3 yss hl s3 hy pm pw => ⟨_, _, rfl, ?_⟩⟩
    have hA3 := s3 _ _ (upd_same (a := aA))
    have s23 : Same H2 H3 := sA.trans s3
    have nd := parts_nodup m.pi
    have allp := parts_perm m.pi
    have lt : ∀ x ∈ (cys n f).flatten ++ (chs n f).flatten, x < n := fun x hx => List.mem_range.mp (allp.mem_iff.mp hx)
    have ysp : ((yss.map List.length)).Perm (lc n f) := pm.map _
    have yfl : yss.flatten.Perm (cys n f).flatten := pm.flatten
    have ylen : ∀ xs ∈ yss, 0 < xs.length ∧ xs.length ≤ 12 := fun xs hx => by
      have h1 : xs.length ∈ lc n f := List.mem_map.mpr ⟨xs, pm.mem_iff.mp hx, rfl⟩
      have h2 := sh.lp _ h1
      have h3 : xs.length ≤ ((cys n f).map List.length).sum := mem_le_sum h1
      have h4 := sh.sum
      omega
    have ydv : ∀ L ∈ yss.map List.length, (yss.map List.length).count L % gsz L d = 0 := fun L hL => by
      have h1 := ysp.mem_iff.mp hL
      rw [ysp.count_eq]
      exact obsF_none eo h1 (sh.lt.1 L h1)
    -- the cycles' groups
    refine ⟨fun mm σ H' => ∃ aL o6 ls ps done, σ = [some (.ref p), some (nv d), some (.ref ac), some (.ref ah), some (.ref aA), some (.ref aL), o6] ∧ Same H2 H' ∧ H' aA = some (.dK (dk ps)) ∧ RowsAt H' aL ls ∧ Tb 0 done ps ∧ (done ++ ls.flatten).Perm yss.flatten ∧ ls.Pairwise (fun x y => x.length ≤ y.length) ∧
        (∀ L ∈ ls.map List.length, (ls.map List.length).count L % gsz L d = 0) ∧ (∀ xs ∈ ls, xs ∈ yss) ∧ mm = ls.length ∧ ls.length ≤ 12,
      ⟨yss.length, l, none, yss, [], [], rfl, s23, hA3, hy, Tb.nil 0, List.Perm.refl _, pw, ydv, fun _ h => h, rfl, by rw [pm.length_eq]; omega⟩, ?_⟩
    rintro mm σ H' ⟨aL, o6, ls, ps, done, rfl, s', hA', rl, tb, per, pws, dvs, sub, rfl, ll⟩
    refine ⟨_, rfl, by show 0 ≤ sizeLine; decide, fun aE hE => ?_⟩
    have sE := same_new (o := .lst []) (Same.refl H') hE
    have rl1 := rl.same sE
    refine ⟨_, _, dp_rows rl1, dp_nil upd_same, shaped_of (pR_lay ls), shaped_of (pR_lay []), _, rfl, ?_⟩
    rw [pR_nil]
    have hA1 := sE _ _ hA'
    have s1' := s'.trans sE
    have nA : H2 aA = none := hA
    generalize upd H' aE (.lst []) = H4 at rl1 hA1 s1'
    have dnd : (done ++ ls.flatten).Nodup := per.nodup_iff.mpr (yfl.nodup_iff.mpr (List.nodup_append.mp nd).1)
    have dlt : ∀ x ∈ done ++ ls.flatten, x < n := fun x hx => lt x (List.mem_append_left _ (yfl.mem_iff.mp (per.mem_iff.mp hx)))
    cases ls with
    | nil =>
      rw [decide_eq_true rfl]
      refine iteF ?_
      -- the chains' groups
      rw [List.flatten_nil, List.append_nil] at per dnd dlt
      refine ⟨_, rfl, _, rfl, ah, d, _, rfl, rh.same s1', by omega, d1, d2, fun e H5 gss s5 hg gp gne => ?_⟩
      obtain ⟨qs, eqs, hqe, hqr⟩ := hg
      have hA5 := s5 _ _ hA1
      refine ⟨e, rfl, ⟨_, SqL.of hqe⟩, ?_⟩
      have w := walk_list (K := K) (a := e) (xs := qs.map fun q => V.ref q.1)
      rw [List.length_map] at w
      have gfl : gss.flatten.flatten.Perm (chs n f).flatten := gp.flatten
      have gall : (done ++ gss.flatten.flatten).Nodup := by
        have h1 : (done ++ gss.flatten.flatten).Perm ((cys n f).flatten ++ (chs n f).flatten) := (per.trans yfl).append gfl
        exact h1.nodup_iff.mpr nd
      have gtake : ∀ i, gss.flatten.flatten = (gss.take i).flatten.flatten ++ (gss.drop i).flatten.flatten := fun i => by
        rw [← List.flatten_append, ← List.flatten_append, List.take_append_drop]
      have glt : ∀ x ∈ gss.flatten.flatten, x < n := fun x hx => lt x (List.mem_append_right _ (gfl.mem_iff.mp hx))
      refine for_it w (fun i σ H' => ∃ o6 ps, σ = [some (.ref p), some (nv d), some (.ref ac), some (.ref ah), some (.ref aA), some (.ref aL), o6] ∧ (∀ b o, H5 b = some o → b ≠ aA → H' b = some o) ∧ Same H2 H' ∧ H' aA = some (.dK (dk ps)) ∧ Tb 0 (done ++ (gss.take i).flatten.flatten) ps)
        ⟨o6, ps, rfl, fun b o e _ => e, s1'.trans s5, hA5, by rw [List.take_zero]; simpa using tb⟩ (fun i σ H' _ ⟨_, _, _, k, _⟩ => SqL.of (k _ _ hqe (ne_of hqe hA5 (by intro z; cases z)))) ?_ ?_
      · rintro i v σ H6 H7 hi ⟨o6', ps', rfl, k6, s6, hA6, tb6⟩ ⟨rfl, ev⟩
        have ei := List.getElem?_eq_getElem hi
        have em := List.getElem_mem hi
        rw [List.getElem?_map, ei] at ev
        cases ev
        have hr6 := (hqr _ em).keepD k6 ⟨_, hA5⟩
        have eg : gss[i]? = some qs[i].2 := by rw [← eqs, List.getElem?_map, ei]; rfl
        generalize qs[i] = pr at *
        obtain ⟨c, xss⟩ := pr
        have eg : gss[i]? = some xss := eg
        have hr6 : RowsAt H7 c xss := hr6
        have gm := List.mem_of_getElem? eg
        have xsub : xss.flatten.Sublist gss.flatten.flatten := sub_flat2 gm
        have xnd : xss.flatten.Nodup := (List.nodup_append.mp gall).2.1.sublist xsub
        have xl : xss.flatten.length ≤ 12 := by
          have := pigeon xnd fun x hx => glt x (xsub.subset hx)
          omega
        have xl2 : xss.length ≤ 12 := by
          have h1 := (List.sublist_flatten_of_mem gm).length_le
          have h2 := gp.length_eq
          omega
        refine ⟨_, rfl, .inr (.inr (.inl ⟨rfl, .inl ⟨_, hA6⟩⟩)), _, rfl, c, xss, rfl, hr6, gne xss gm, by omega, by omega, xnd, fun e2 H8 ps2 he2 s8 h8 tb2 => ?_⟩
        have dj : ∀ x ∈ done ++ (gss.take i).flatten.flatten, x ∉ xss.flatten := fun x hx hx2 => by
          have h3 : (done ++ ((gss.take i).flatten.flatten ++ (gss.drop i).flatten.flatten)).Nodup := by rw [← gtake]; exact gall
          rw [← List.append_assoc, List.nodup_append] at h3
          refine h3.2.2 x hx x ?_ rfl
          rw [List.drop_eq_getElem_cons (List.getElem?_eq_some_iff.mp eg).1, (List.getElem?_eq_some_iff.mp eg).2, List.flatten_cons, List.flatten_append]
          exact List.mem_append_left _ hx2
        have tb3 := tb6.append tb2 dj
        have pl1 : ps'.length ≤ 12 := by
          have := nodup_sub tb6.kn tb6.ks
          have h5 : (done ++ (gss.take i).flatten.flatten).length ≤ n := by
            have h3 : (done ++ ((gss.take i).flatten.flatten ++ (gss.drop i).flatten.flatten)).Nodup := by rw [← gtake]; exact gall
            rw [← List.append_assoc, List.nodup_append] at h3
            exact pigeon h3.1 fun x hx => by
              rcases List.mem_append.mp hx with h | h
              · exact dlt x h
              · exact glt x (by rw [gtake i]; exact List.mem_append_left _ h)
          rw [List.length_map] at this
          omega
        have pl2 : ps2.length ≤ 12 := by
          have := nodup_sub tb2.kn tb2.ks
          rw [List.length_map] at this
          omega
        refine ⟨aA, e2, _, _, rfl, rfl, ne_of_none hA6 he2, s8 _ _ hA6, h8, by rw [dk_length, dk_length]; exact Nat.le_of_lt (small12 (by omega)), ?_⟩
        rw [merge_dk tb3.kn]
        refine ⟨_, _, rfl, fun b o eb nb => ?_, ?_, upd_same, ?_⟩
        · rw [upd_ne nb]; exact s8 _ _ (k6 b o eb nb)
        · exact same_at (s6.trans s8) nA
        · rw [List.take_succ, eg, List.flatten_append, List.flatten_append, ← List.append_assoc]
          show Tb 0 (_ ++ ([xss].flatten).flatten) _
          rw [show [xss].flatten = xss by simp]
          exact tb3
      · rintro σ H6 ⟨o6', ps', rfl, k6, s6, hA6, tb6⟩
        have el : qs.length = gss.length := by rw [← eqs, List.length_map]
        rw [el, List.take_length] at tb6
        have s06 := s12.trans s6
        have m6 := m.same s06
        obtain ⟨dx6, _, h16, _⟩ := m6.ob
        refine ⟨_, rfl, p, dx6, _, rfl, h16, p, n, f, rfl, m6, _, rfl, ?_⟩
        obtain ⟨R, pi⟩ := (tbz (m := n) tb6).rep fun x hx => by
          rcases List.mem_append.mp hx with h | h
          · exact dlt x h
          · exact glt x h
        exact mk_map hA6 R pi m.n1 n2 fun x H7 hx s7 k => q1 eo x H7 (s06.trans s7) ⟨_, k⟩
    | cons r0 rest =>
      rw [decide_eq_false (by simp)]
      refine iteT ⟨fun σ' H'' => ∃ mm' < (r0 :: rest).length, _, fun σ' H'' z => z, ?_⟩
      obtain ⟨l0, l12⟩ := ylen r0 (sub r0 List.mem_cons_self)
      obtain ⟨g0, g12, gpb⟩ := gsz_ok d hd r0.length l12 l0
      obtain ⟨gsame, gle, gdv⟩ := group_first hd pws dvs l0 l12
      obtain ⟨ys1, hys1, ly1, cTo, cFrom, hd0⟩ := rl1.cut
      obtain ⟨c, hc, hcl⟩ := hd0 r0 rest rfl
      refine ⟨_, rfl, _, rfl, aL, _, 0, _, rfl, rfl, SqL.of hys1, atI_nat (j := 0) hc, c, _, rfl, .inl (SqL.of hcl), _, rfl, r0.length, d, by rw [li_length], l0, l12, d1, d2, _, rfl, aL, ys1, rfl, SqL.of hys1, fun aP hP => ?_⟩
      have rT := cTo (gsz r0.length d) aP hP
      have sP := same_new (o := .lst (cutV ys1 none (some ((gsz r0.length d : Nat) : Int)))) (Same.refl H4) hP
      have rl2 := rl1.same sP
      have hA2 := sP _ _ hA1
      have s2' := s1'.trans sP
      generalize upd H4 aP (.lst (cutV ys1 none (some ((gsz r0.length d : Nat) : Int)))) = H5 at *
      obtain ⟨yp, hyp, lyp, _⟩ := rT.cut
      obtain ⟨ys2, hys2, _, _, cF2, _⟩ := rl2.cut
      refine ⟨_, rfl, _, rfl, aP, yp, rfl, .inl (SqL.of hyp), _, rfl, aL, ys2, rfl, SqL.of hys2, fun aL2 hL2 => ?_⟩
      have rF := cF2 yp.length aL2 hL2
      have s5 := same_new (o := .lst (cutV ys2 (some (yp.length : Int)) none)) (Same.refl H5) hL2
      have rT2 := rT.same s5
      have hA3' := s5 _ _ hA2
      have s3' := s2'.trans s5
      generalize upd H5 aL2 (.lst (cutV ys2 (some (yp.length : Int)) none)) = H6 at *
      have yl : yp.length = gsz r0.length d := by rw [lyp, List.length_take]; omega
      rw [yl] at rF
      have glen : ((r0 :: rest).take (gsz r0.length d)).length = gsz r0.length d := by rw [List.length_take]; omega
      have fsplit : (r0 :: rest).flatten = ((r0 :: rest).take (gsz r0.length d)).flatten ++ ((r0 :: rest).drop (gsz r0.length d)).flatten := by rw [← List.flatten_append, List.take_append_drop]
      have gL : gsz r0.length d * r0.length ≤ 12 := by
        have h3 : ((r0 :: rest).take (gsz r0.length d)).flatten.length = gsz r0.length d * r0.length := by
          rw [List.length_flatten, List.map_congr_left (g := fun _ => r0.length) gsame, CM.sum_map_const, glen]
        have h4 : ((r0 :: rest).take (gsz r0.length d)).flatten.length ≤ n := by
          rw [fsplit] at dnd dlt
          exact pigeon ((List.nodup_append.mp (List.nodup_append.mp dnd).2.1).1) fun x hx => dlt x (List.mem_append_right _ (List.mem_append_left _ hx))
        omega
      have gnd : ((r0 :: rest).take (gsz r0.length d)).flatten.Nodup := by
        rw [fsplit] at dnd
        exact (List.nodup_append.mp (List.nodup_append.mp dnd).2.1).1
      refine ⟨_, rfl, .inr (.inr (.inl ⟨rfl, .inl ⟨_, hA3'⟩⟩)), _, rfl, _, rfl, aP, d, gsz r0.length d, r0.length, _, rfl, rT2, glen, gsame, g0, l0, gL, d2, gpb gL, gnd, fun e2 H8 ps2 he2 s8 h8 tb2 => ?_⟩
      have dj : ∀ x ∈ done, x ∉ ((r0 :: rest).take (gsz r0.length d)).flatten := fun x hx hx2 => by
        rw [fsplit, List.nodup_append] at dnd
        exact dnd.2.2 x hx x (List.mem_append_left _ hx2) rfl
      have tb3 := tb.append tb2 dj
      have pl1 : ps.length ≤ 12 := by
        have h5 := nodup_sub tb.kn tb.ks
        have h6 := pigeon (List.nodup_append.mp dnd).1 fun x hx => dlt x (List.mem_append_left _ hx)
        rw [List.length_map] at h5
        omega
      have pl2 : ps2.length ≤ 12 := by
        have h5 := nodup_sub tb2.kn tb2.ks
        have h6 := pigeon gnd fun x hx => dlt x (List.mem_append_right _ (by rw [fsplit]; exact List.mem_append_left _ hx))
        rw [List.length_map] at h5
        omega
      refine ⟨aA, e2, _, _, rfl, rfl, ne_of_none hA3' he2, s8 _ _ hA3', h8, by rw [dk_length, dk_length]; exact Nat.le_of_lt (small12 (by omega)), ?_⟩
      rw [merge_dk tb3.kn]
      refine ⟨((r0 :: rest).drop (gsz r0.length d)).length, by rw [List.length_drop]; omega, aL2, _, _, _, _, rfl, same_at (s3'.trans s8) nA, upd_same, ?_, tb3, ?_, ?_, gdv, fun xs hx => sub xs (List.mem_of_mem_drop hx), rfl, by rw [List.length_drop]; omega⟩
      · exact (rF.same s8).keepD (fun b o eb nb => by rw [upd_ne nb]; exact eb) ⟨_, s8 _ _ hA3'⟩
      · rw [List.append_assoc, ← fsplit]; exact per
      · exact pws.sublist (List.drop_sublist _ _)
end
end K35
end

section
set_option Elab.async false
set_option linter.all false
set_option maxRecDepth 100000
set_option maxHeartbeats 4000000
/-! W17: count_cycle_roots. -/
namespace K35
open PySem PySem.Spec PyProof.Rows L2 CM
theorem ccW_get {L d : Nat} : ∀ {s k : Nat}, k ≤ s → (ccW L d s).getD k 0 = ccr L k d
  | 0, k, h => by cases Nat.le_zero.mp h; rfl
  | s + 1, k, h => by
    by_cases e : k = s + 1
    · rw [e]; rfl
    · rw [ccW, List.getD_eq_getElem?_getD, List.getElem?_append_left (by rw [ccW_len]; omega), ← List.getD_eq_getElem?_getD]
      exact ccW_get (by omega)
theorem ccr_lt {L m d : Nat} (hd : d ∈ degs) (hL : 0 < L) (h : L * m ≤ 12) : ccr L m d < 2 ^ 64 := by
  have hm : m ≤ 12 := Nat.le_trans (Nat.le_mul_of_pos_left m hL) h
  by_cases l : L ≤ 12
  · exact Nat.lt_of_le_of_lt (ccr_small d hd L l m hm h) (Nat.pow_lt_pow_right (by omega) (by omega))
  · have : m = 0 := by
      cases m with
      | zero => rfl
      | succ m => have : L ≤ L * (m + 1) := Nat.le_mul_of_pos_right L (Nat.succ_pos m); omega
    subst this
    show 1 < 2 ^ 64
    decide
theorem li_at {xs : List Nat} {i : Nat} (h : i < xs.length) : atI (li xs) (i : Int) = some (nv (xs.getD i 0)) :=
  atI_li (by rw [List.getD_eq_getElem?_getD, List.getElem?_eq_getElem h]; rfl)
section
variable {P : Program} {w : World} {K : PySem.W.Frag} {mg : Str → Option Value} {base : Heap}
def sp_count_cycle_roots : Sp := fun vs H Q _ => ∃ L m d : Nat, vs = [nv L, nv m, nv d] ∧ 0 < L ∧ L * m ≤ 12 ∧ d ∈ degs ∧ ∀ H', Same H H' → Q (nv (ccr L m d)) H'
theorem ok_count_cycle_roots (T : Txt K mg base) : Okd P w K mg base 2 (a_count_cycle_roots K) sp_count_cycle_roots := by
  refine okd (d := d_count_cycle_roots) T 51 rfl rfl sc_count_cycle_roots (fun _ _ _ _ _ _ us hl => match us, hl with | [_, _, _], _ => rfl) (fun vs H Q E h => ?_) (fun cdv A outer s H vs Q E hr h => ?_)
  · obtain ⟨L, m, d, rfl, _⟩ := h; rfl
  obtain ⟨L, m, d, rfl, hL, hLm, hd, q⟩ := h
  have hm : m ≤ 12 := Nat.le_trans (Nat.le_mul_of_pos_left m hL) hLm
  obtain ⟨d1, d2⟩ := degs_le hd
  refine ⟨_, (pss_cons (ps_set (i := 3) sc_count_cycle_roots.nd rfl (Or.inl rfl) (pe_lst (pa_cons pe_int pa_nil)))
      (pss_cons (ps_for PassesOwn.never rfl (pi_range2 rfl T.f_range (pa_cons pe_int (pa_cons (pe_op op_add (pv 1) pe_int) pa_nil))) (pg_name (i := 4) sc_count_cycle_roots.nd rfl (Or.inl rfl))
      (pss_cons (ps_set (i := 5) sc_count_cycle_roots.nd rfl (Or.inl rfl) pe_int)
      (pss_cons (ps_for PassesOwn.never rfl (pi_range2 rfl T.f_range (pa_cons pe_int (pa_cons (pe_op op_add (pv 4) pe_int) pa_nil))) (pg_name (i := 6) sc_count_cycle_roots.nd rfl (Or.inl rfl))
      (pss_one (ps_if (PW.pt (pw_and (pt_cmpR op_eq (pe_op op_mod (pv 2) (pv 6)) pe_int (nomark _)) (pw_and1 (pt_cmpR op_eq (pe_cD (ok_greatest_divisor T) (hr.mono (by decide)) T.g_greatest_divisor (pa_cons (pe_op op_mul (pv 0) (pv 6)) (pa_cons (pv 2) pa_nil))) (pv 6) (nomark _))))) (pss_cons (ps_set (i := 7) sc_count_cycle_roots.nd rfl (Or.inl rfl) (pe_op op_mul (pe_cD (ok_factorial T) (hr.mono (by decide)) T.g_factorial (pa_cons (pe_op op_sub (pv 6) pe_int) pa_nil)) (pe_cD (ok_power_of T) (hr.mono (by decide)) T.g_power_of (pa_cons (pv 0) (pa_cons (pe_op op_sub (pv 6) pe_int) pa_nil)))))
      (pss_one (ps_aug (i := 5) sc_count_cycle_roots.nd rfl (Or.inl rfl) (pe_op op_mul (pe_op op_mul (pe_cD (ok_choices T) (hr.mono (by decide)) T.g_choices (pa_cons (pe_op op_sub (pv 4) pe_int) (pa_cons (pe_op op_sub (pv 6) pe_int) pa_nil))) (pv 7)) (pe_ix ix_list (pv 3) (pe_op op_sub (pv 4) (pv 6)) (fun _ _ => rfl))) ip_add))) pss_nil)))
      (pss_one (ps_expr (pe_bm PySem.F.plainAttrs_list PySem.F.slot_list_append PySem.F.type_list_append mt_append (pv 3) (pa_cons (pv 5) pa_nil)))))))
      (pss_one (ps_ret (pe_ix ix_list (pv 3) (pv 1) (fun _ _ => rfl)))))), ?_⟩
  refine ⟨by show 1 ≤ sizeLine; decide, fun aW hW => ?_⟩
  have sW := same_new (o := .lst [V.int 1]) (Same.refl H) hW
  refine ⟨_, rfl, _, _, rfl, rfl, 1, (m : Int) + 1, rfl, ⟨by omega, by omega, by omega, by omega⟩, ?_⟩
  rw [show ((m : Int) + 1 - 1).toNat = m by omega]
  refine for_it walk_range (fun i σ H' => ∃ o4 o5 o6 o7, σ = [some (nv L), some (nv m), some (nv d), some (.ref aW), o4, o5, o6, o7] ∧ Same H H' ∧ H' aW = some (.lst (li (ccW L d i)))) ⟨none, none, none, none, rfl, sW, upd_same⟩ (fun _ _ _ _ _ => trivial) ?_ ?_
  · rintro i v σ H' H'' hi ⟨o4, o5, o6, o7, rfl, s, hw⟩ ⟨rfl, rfl⟩
    have ei : V.int (1 + (i : Int)) = nv (i + 1) := by show V.int _ = V.int _; rw [show (1 + (i : Int)) = ((i + 1 : Nat) : Int) by omega]
    dsimp only
    rw [ei]
    have wl := ccW_len L d i
    have Li : L * (i + 1) ≤ 12 := Nat.le_trans (Nat.mul_le_mul_left L (by omega)) hLm
    refine ⟨_, rfl, _, _, rfl, rfl, 1, ((i + 1 : Nat) : Int) + 1, rfl, ⟨by omega, by omega, by omega, by omega⟩, ?_⟩
    rw [show (((i + 1 : Nat) : Int) + 1 - 1).toNat = i + 1 by omega]
    refine for_it walk_range (fun k σ H3 => ∃ o6 o7, σ = [some (nv L), some (nv m), some (nv d), some (.ref aW), some (nv (i + 1)), some (nv (ccT L d (ccW L d i) (i + 1) k)), o6, o7] ∧ H3 = H'') ⟨o6, o7, rfl, rfl⟩ (fun _ _ _ _ _ => trivial) ?_ ?_
    · rintro k v σ H3 H4 hk ⟨o6, o7, rfl, rfl⟩ ⟨rfl, rfl⟩
      have ek : V.int (1 + (k : Int)) = nv (k + 1) := by show V.int _ = V.int _; rw [show (1 + (k : Int)) = ((k + 1 : Nat) : Int) by omega]
      dsimp only
      rw [ek]
      have m1 := Nat.mod_lt d (Nat.succ_pos k)
      have L12 : L ≤ 12 := Nat.le_trans (Nat.le_mul_of_pos_right L (Nat.succ_pos i)) Li
      have e3 : [V.int (((i + 1 : Nat) : Int) - 1), V.int (((k + 1 : Nat) : Int) - 1)] = [nv i, nv k] := by
        rw [show ((i + 1 : Nat) : Int) - 1 = (i : Int) by omega, show ((k + 1 : Nat) : Int) - 1 = (k : Int) by omega]
      have e4 : [V.int (((k + 1 : Nat) : Int) - 1)] = [nv k] := by rw [show ((k + 1 : Nat) : Int) - 1 = (k : Int) by omega]
      have e5 : [nv L, V.int (((k + 1 : Nat) : Int) - 1)] = [nv L, nv k] := by rw [show ((k + 1 : Nat) : Int) - 1 = (k : Int) by omega]
      have e6 : ((i + 1 : Nat) : Int) - ((k + 1 : Nat) : Int) = ((i + 1 - (k + 1) : Nat) : Int) := by omega
      refine ⟨_, rfl, _, rfl, _, _, rfl, rfl, by show (0 : Int) < ((k + 1 : Nat) : Int); omega, rfl, decide (d % (k + 1) = 0), ?_, ?_⟩
      · have : (V.int ((d : Int) % ((k + 1 : Nat) : Int)) = V.int 0) ↔ d % (k + 1) = 0 := by
          rw [show ((d : Int) % ((k + 1 : Nat) : Int)) = ((d % (k + 1) : Nat) : Int) from toNat_mod]
          exact ⟨fun z => by have := V.int.inj z; omega, fun z => by rw [z]; rfl⟩
        show V.bl (decide (V.int ((d : Int) % ((k + 1 : Nat) : Int)) = V.int 0)) = _
        rw [decide_eq_decide.mpr this]
      by_cases c1 : d % (k + 1) = 0
      · rw [decide_eq_true c1]
        refine iteT ⟨_, rfl, _, rfl, _, _, rfl, rfl, .inr ⟨by omega, by omega⟩, _, rfl, L * (k + 1), d, ?_, _, rfl, rfl, decide (Nat.gcd (L * (k + 1)) d = k + 1), ?_, ?_⟩
        · show [V.int ((L : Int) * ((k + 1 : Nat) : Int)), nv d] = _
          rw [← Int.natCast_mul]
        · have : (nv (Nat.gcd (L * (k + 1)) d) = nv (k + 1)) ↔ Nat.gcd (L * (k + 1)) d = k + 1 := ⟨fun z => by have := V.int.inj z; omega, fun z => by rw [z]⟩
          show V.bl (decide (nv (Nat.gcd (L * (k + 1)) d) = nv (k + 1))) = _
          rw [decide_eq_decide.mpr this]
        by_cases c2 : Nat.gcd (L * (k + 1)) d = k + 1
        · rw [decide_eq_true c2]
          have ms := merged_small L L12 k (by omega) (Nat.le_trans (Nat.mul_le_mul_left L (by omega)) Li)
          have Lk : 1 ≤ L ^ k := Nat.pow_pos hL
          have fk : fac k ≤ fac k * L ^ k := Nat.le_mul_of_pos_right _ Lk
          have cs := ch_small i (by omega) k (by omega)
          have cg : (ccW L d i).getD (i + 1 - (k + 1)) 0 = ccr L (i + 1 - (k + 1)) d := ccW_get (by omega)
          have cl : ccr L (i + 1 - (k + 1)) d < 2 ^ 64 := ccr_lt hd hL (Nat.le_trans (Nat.mul_le_mul_left L (by omega)) Li)
          rw [← cg] at cl
          have at' := li_at (xs := ccW L d i) (i := i + 1 - (k + 1)) (by omega)
          rw [← e6] at at'
          refine iteT ⟨_, rfl, _, _, rfl, rfl, k, e4, by omega, _, rfl, _, rfl, _, _, rfl, rfl, L, k, e5, by omega, by omega, _, _, rfl, rfl, .inl ⟨by omega, by omega⟩, ?_⟩
          refine ⟨_, rfl, _, rfl, _, _, rfl, rfl, _, rfl, _, _, rfl, rfl, i, k, e3, by omega, by omega, _, rfl, _, _, rfl, rfl, .inl ⟨by omega, by omega⟩, ?_⟩
          refine ⟨_, rfl, _, rfl, _, rfl, _, _, rfl, rfl, aW, _, _, _, rfl, rfl, SqL.of hw, at', _, _, rfl, rfl, .inr ⟨by omega, by omega⟩, _, _, rfl, rfl, ?_⟩
          refine ⟨some (nv (k + 1)), some (.int ((fac k : Int) * ((L ^ k : Nat) : Int))), ?_, rfl⟩
          have et : ((ccT L d (ccW L d i) (i + 1) k : Nat) : Int) + ((chN i k : Nat) : Int) * (((fac k : Nat) : Int) * ((L ^ k : Nat) : Int)) * (((ccW L d i).getD (i + 1 - (k + 1)) 0 : Nat) : Int) = ((ccT L d (ccW L d i) (i + 1) (k + 1) : Nat) : Int) := by
            rw [ccT, if_pos ⟨c1, c2⟩, Int.natCast_add, Int.natCast_mul, Int.natCast_mul, Int.natCast_mul]; rfl
          exact congrArg (fun z : Int => [some (nv L), some (nv m), some (nv d), some (V.ref aW), some (nv (i + 1)), some (V.int z), some (nv (k + 1)), some (V.int ((fac k : Int) * ((L ^ k : Nat) : Int)))]) et
        · rw [decide_eq_false c2]
          refine iteF ⟨some (nv (k + 1)), o7, ?_, rfl⟩
          rw [ccT, if_neg (fun z => c2 z.2)]; rfl
      · rw [decide_eq_false c1]
        refine iteF (iteF ⟨some (nv (k + 1)), o7, ?_, rfl⟩)
        rw [ccT, if_neg (fun z => c1 z.1)]; rfl
    · rintro σ H3 ⟨o6, o7, rfl, rfl⟩
      refine ⟨_, rfl, .inl ⟨rfl, _, SqL.of hw⟩, _, rfl, aW, _, _, rfl, rfl, hw, ?_, ?_⟩
      · rw [li_length]; exact small12 (by omega)
      refine ⟨_, _, _, _, rfl, fun b o eb => ?_, ?_⟩
      · rw [upd_ne (ne_of_none eb hW)]; exact s _ _ eb
      · rw [upd_same, ccW, li_snoc]
  · rintro σ H' ⟨o4, o5, o6, o7, rfl, s, hw⟩
    have at' := li_at (xs := ccW L d m) (i := m) (by rw [ccW_len]; omega)
    exact ⟨_, rfl, _, rfl, aW, _, _, _, rfl, rfl, SqL.of hw, at', q H' s⟩
end
end K35
end

section
set_option Elab.async false
set_option linter.all false
set_option maxRecDepth 100000
set_option maxHeartbeats 4000000
/-! W18: the counter of chains. -/
namespace K35
open PySem PySem.Spec PyProof.Rows L2 CM
theorem kc_a : ¬ (("own_chains" : Str) = "own_known") := by decide +kernel
theorem kc_b : ¬ (("own_chains" : Str) = "own_degree") := by decide +kernel
theorem kc_c : ¬ (("own_degree" : Str) = "own_known") := by decide +kernel
theorem kc_w1 : ¬ (("ways" : Str) = "own_known") ∧ ¬ (("ways" : Str) = "own_degree") ∧ ¬ (("ways" : Str) = "own_chains") := by decide +kernel
theorem kc_w2 : ¬ (("with_first" : Str) = "own_known") ∧ ¬ (("with_first" : Str) = "own_degree") ∧ ¬ (("with_first" : Str) = "own_chains") := by decide +kernel
def fC (e : Addr) (d : Nat) (t : Addr) : List (Str × V) := putF "own_known" (.ref t) (putF "own_degree" (nv d) (putF "own_chains" (.ref e) []))
theorem fC_known (e : Addr) (d : Nat) (t : Addr) : (fC e d t).lookup ("own_known" : Str) = some (.ref t) := by
  unfold fC; rw [lookup_putF, if_pos rfl]
theorem fC_degree (e : Addr) (d : Nat) (t : Addr) : (fC e d t).lookup ("own_degree" : Str) = some (nv d) := by
  unfold fC; rw [lookup_putF, if_neg kc_c, lookup_putF, if_pos rfl]
theorem fC_chains (e : Addr) (d : Nat) (t : Addr) : (fC e d t).lookup ("own_chains" : Str) = some (.ref e) := by
  unfold fC; rw [lookup_putF, if_neg kc_a, lookup_putF, if_neg kc_b, lookup_putF, if_pos rfl]
theorem fC_no (e : Addr) (d : Nat) (t : Addr) {m : Str} (h : ¬ m = "own_known" ∧ ¬ m = "own_degree" ∧ ¬ m = "own_chains") : (fC e d t).lookup m = none := by
  unfold fC; rw [lookup_putF, if_neg h.1, lookup_putF, if_neg h.2.1, lookup_putF, if_neg h.2.2]; rfl
abbrev k3 (L h b : Nat) : List Key := [nk L, nk h, nk b]
theorem k3_inj {L h b L' h' b' : Nat} (e : k3 L h b = k3 L' h' b') : L = L' ∧ h = h' ∧ b = b' := by
  unfold k3 at e
  injection e with e1 e
  injection e with e2 e
  injection e with e3 e
  exact ⟨nk_inj e1, nk_inj e2, nk_inj e3⟩
/-- what the counter knows -/
def CK (c : PF) (d : Nat) (kvs : List (List Key × V)) : Prop := (∀ r ∈ kvs, ∃ L h b, r = (k3 L h b, nv (Wy c d L h b)) ∧ L < 13 ∧ h < 13 ∧ b < 13) ∧ (kvs.map (·.1)).Nodup
theorem CK.nil {c : PF} {d : Nat} : CK c d [] := ⟨fun _ h => (by cases h), List.nodup_nil⟩
theorem CK.len {c : PF} {d : Nat} {kvs : List (List Key × V)} (h : CK c d kvs) : kvs.length < sizeLine := by
  have : (kvs.map (·.1)).length ≤ ((List.range 13).flatMap fun L => (List.range 13).flatMap fun h => (List.range 13).map fun b => k3 L h b).length := by
    refine nodup_sub h.2 fun k hk => ?_
    obtain ⟨r, hr, rfl⟩ := List.mem_map.mp hk
    obtain ⟨L, x, b, rfl, l1, l2, l3⟩ := h.1 r hr
    exact List.mem_flatMap.mpr ⟨L, List.mem_range.mpr l1, List.mem_flatMap.mpr ⟨x, List.mem_range.mpr l2, List.mem_map.mpr ⟨b, List.mem_range.mpr l3, rfl⟩⟩⟩
  rw [List.length_map] at this
  have s : 2197 < sizeLine := by decide
  refine Nat.lt_of_le_of_lt (Nat.le_trans this ?_) s
  decide +kernel
theorem CK.get {c : PF} {d : Nat} {kvs : List (List Key × V)} (h : CK c d kvs) {L x b : Nat} {v : V} (e : valV kvs (k3 L x b) = some v) : v = nv (Wy c d L x b) := by
  unfold valV at e
  obtain ⟨r, hr, rfl⟩ := Option.map_eq_some_iff.mp e
  obtain ⟨L', x', b', e2, _⟩ := h.1 r (List.mem_of_find?_eq_some hr)
  have e3 : r.1 = k3 L x b := of_decide_eq_true (List.find?_some (p := fun kv : List Key × V => decide (kv.1 = k3 L x b)) hr)
  subst e2
  obtain ⟨rfl, rfl, rfl⟩ := k3_inj e3
  rfl
theorem CK.put {c : PF} {d : Nat} {kvs : List (List Key × V)} (h : CK c d kvs) {L x b : Nat} (hL : L < 13) (hx : x < 13) (hb : b < 13) : CK c d (putK kvs (k3 L x b) (nv (Wy c d L x b))) := by
  by_cases e : ∃ v, valV kvs (k3 L x b) = some v
  · unfold putK
    by_cases a : (kvs.any fun kv => decide (kv.1 = k3 L x b)) = true
    · rw [if_pos a]
      have : kvs.map (fun kv => if kv.1 = k3 L x b then (kv.1, nv (Wy c d L x b)) else kv) = kvs := by
        refine (List.map_congr_left fun r hr => ?_).trans (List.map_id kvs)
        by_cases z : r.1 = k3 L x b
        · rw [if_pos z]
          obtain ⟨L', x', b', e2, _⟩ := h.1 r hr
          subst e2
          obtain ⟨rfl, rfl, rfl⟩ := k3_inj z
          rfl
        · rw [if_neg z]; rfl
      rw [this]; exact h
    · exfalso
      obtain ⟨v, e⟩ := e
      unfold valV at e
      obtain ⟨r, hr, _⟩ := Option.map_eq_some_iff.mp e
      exact a (List.any_eq_true.mpr ⟨r, List.mem_of_find?_eq_some hr, List.find?_some (p := fun kv : List Key × V => decide (kv.1 = k3 L x b)) hr⟩)
  · have e : valV kvs (k3 L x b) = none := by
      cases q : valV kvs (k3 L x b) with
      | none => rfl
      | some v => exact absurd ⟨v, q⟩ e
    rw [putK_new _ e]
    refine ⟨fun r hr => ?_, ?_⟩
    · rcases List.mem_append.mp hr with hr | hr
      · exact h.1 r hr
      · have : r = (k3 L x b, nv (Wy c d L x b)) := by simpa using hr
        exact ⟨L, x, b, this, hL, hx, hb⟩
    · rw [List.map_append]
      refine List.nodup_append.mpr ⟨h.2, by simp, fun k hk j hj z => ?_⟩
      have hj : j = k3 L x b := by simpa using hj
      subst hj; subst z
      obtain ⟨r, hr, e2⟩ := List.mem_map.mp hk
      unfold valV at e
      rw [Option.map_eq_none_iff, List.find?_eq_none] at e
      exact e r hr (decide_eq_true e2)
def But (t : Addr) (H H' : Hp) : Prop := ∀ b o, H b = some o → b ≠ t → H' b = some o
theorem But.trans {t : Addr} {H H1 H2 : Hp} (h1 : But t H H1) (h2 : But t H1 H2) : But t H H2 := fun b o e n => h2 b o (h1 b o e n) n
theorem But.of {t : Addr} {H H' : Hp} (s : Same H H') : But t H H' := fun b o e _ => s b o e
theorem But.put {t : Addr} {H : Hp} {o : HO} : But t H (upd H t o) := fun b o e n => by rw [upd_ne n]; exact e
structure CC (K : PySem.W.Frag) (H : Hp) (p t dx e : Addr) (ks : List Nat) (d : Nat) : Prop where
  ob : H p = some (.ins (C_ChainCounter K) dx (fC e d t))
  ch : H e = some (.dK (dk (tab ks)))
  kn : ∃ kvs, H t = some (.dT kvs) ∧ CK (cf ks) d kvs
  lt : ∀ L ∈ ks, L < 13
  len : ks.length ≤ 12
  dg : d ∈ degs
theorem CC.nt {K : PySem.W.Frag} {H : Hp} {p t dx e : Addr} {ks : List Nat} {d : Nat} (c : CC K H p t dx e ks d) : p ≠ t ∧ e ≠ t := by
  obtain ⟨kvs, h, _⟩ := c.kn
  exact ⟨ne_of c.ob h (by intro z; cases z), ne_of c.ch h (by intro z; cases z)⟩
theorem CC.but {K : PySem.W.Frag} {H H' : Hp} {p t dx e : Addr} {ks : List Nat} {d : Nat} (c : CC K H p t dx e ks d) (s : But t H H') (kn : ∃ kvs, H' t = some (.dT kvs) ∧ CK (cf ks) d kvs) : CC K H' p t dx e ks d :=
  ⟨s _ _ c.ob c.nt.1, s _ _ c.ch c.nt.2, kn, c.lt, c.len, c.dg⟩
theorem CC.same {K : PySem.W.Frag} {H H' : Hp} {p t dx e : Addr} {ks : List Nat} {d : Nat} (c : CC K H p t dx e ks d) (s : Same H H') : CC K H' p t dx e ks d := by
  obtain ⟨kvs, h, k⟩ := c.kn
  exact c.but (But.of s) ⟨kvs, s _ _ h, k⟩
theorem cf_le (ks : List Nat) (x : Nat) : (cf ks x).getD 0 ≤ ks.length := by rw [count_getD]; exact List.count_le_length
theorem degs_6 {d : Nat} (h : d ∈ degs) : 1 ≤ d ∧ d ≤ 6 := by
  have : ∀ d ∈ degs, 1 ≤ d ∧ d ≤ 6 := by decide
  exact this d h
theorem dg_two {H : Hp} {e : Addr} {ks : List Nat} (h : H e = some (.dK (dk (tab ks)))) (lt : ∀ L ∈ ks, L < 13) {L : Nat} (hL : 0 < L) : ∃ o, DGet H e (V.int ((L : Int) - 2)) o ∧ o.getD (V.int 0) = nv (cL (cf ks) L) := by
  by_cases z : 2 ≤ L
  · refine ⟨(cf ks (L - 2)).map nv, ?_, ?_⟩
    · rw [show (L : Int) - 2 = ((L - 2 : Nat) : Int) by omega]; exact dgetR (.inl h) (tab_rep lt) (x := L - 2) rfl
    · unfold cL
      rw [if_pos z]
      cases cf ks (L - 2) <;> rfl
  · have : L = 1 := by omega
    subst this
    refine ⟨none, ?_, rfl⟩
    have e1 : valV (dk (tab ks)) (Sum.inl (-1)) = none := by
      unfold valV
      rw [Option.map_eq_none_iff, List.find?_eq_none]
      intro r hr z
      have z := of_decide_eq_true z
      obtain ⟨i, hi⟩ := List.mem_iff_getElem?.mp hr
      obtain ⟨y, _, ey⟩ := dv_get (ps := iv (tab ks)) (k := r.1) (v := r.2) hi
      rw [z] at ey
      injection ey with ey
      omega
    rw [← e1]
    exact DGet.k (k := Sum.inl (-1)) h
section
variable {P : Program} {w : World} {K : PySem.W.Frag} {mg : Str → Option Value} {base : Heap}
def sp_ChainCounter_init (K : PySem.W.Frag) : Sp := fun vs H Q _ => ∃ p dx e ks d, vs = [.ref p, .ref e, nv d] ∧ H p = some (.ins (C_ChainCounter K) dx []) ∧ H e = some (.dK (dk (tab ks))) ∧ (∀ L ∈ ks, L < 13) ∧ ks.length ≤ 12 ∧ d ∈ degs ∧
  ∀ H' t, (∀ b o, H b = some o → b ≠ p → H' b = some o) → H t = none → CC K H' p t dx e ks d → Q .non H'
theorem ok_ChainCounter_init (T : Txt K mg base) : Okd P w K mg base 1 (a_ChainCounter_init K) (sp_ChainCounter_init K) := by
  refine okd (d := d_ChainCounter_init) T 52 rfl rfl sc_ChainCounter_init (fun _ _ _ _ _ _ us hl => match us, hl with | [_, _, _], _ => rfl) (fun vs H Q E h => ?_) (fun cdv A outer s H vs Q E hr h => ?_)
  · obtain ⟨p, dx, e, ks, d, rfl, _⟩ := h; rfl
  obtain ⟨p, dx, e, ks, d, rfl, hp, he, lt, len, dg, q⟩ := h
  have nep : e ≠ p := ne_of he hp (by intro z; cases z)
  refine ⟨_, (pss_cons (ps_fld (pv 0) (pv 1) rfl)
      (pss_cons (ps_fld (pv 0) (pv 2) rfl)
      (pss_one (ps_fld (pv 0) pe_dnewT rfl)))), ?_⟩
  refine ⟨_, rfl, _, rfl, p, _, dx, [], rfl, hp, T.cl_ChainCounter, T.n_ChainCounter_own_chains, (by show 0 < 1000; decide), ?_⟩
  refine ⟨_, rfl, _, rfl, p, _, dx, _, rfl, upd_same, T.cl_ChainCounter, T.n_ChainCounter_own_degree, (by show 1 < 1000; decide), ?_⟩
  intro t ht
  have ntp : t ≠ p := (ne_of_none (upd_same (H := upd H p _) (a := p)) ht).symm
  rw [upd_ne ntp, upd_ne ntp] at ht
  refine ⟨_, rfl, p, _, dx, _, rfl, by rw [upd_ne ntp.symm]; exact upd_same, T.cl_ChainCounter, T.n_ChainCounter_own_known, (by show 2 < 1000; decide), ?_⟩
  refine q _ t (fun b o eb hb => ?_) ht ⟨upd_same, ?_, ⟨[], ?_, CK.nil⟩, lt, len, dg⟩
  · rw [upd_ne hb, upd_ne (ne_of_none eb ht), upd_ne hb, upd_ne hb]; exact eb
  · rw [upd_ne nep, upd_ne (ne_of_none he ht), upd_ne nep, upd_ne nep]; exact he
  · rw [upd_ne ntp, upd_same]
def sp_ways (K : PySem.W.Frag) (m : Nat) : Sp := fun vs H Q _ => ∃ p t dx e ks d L h b, vs = [.ref p, nv L, nv h, nv b] ∧ CC K H p t dx e ks d ∧ L < 13 ∧ h < 13 ∧ b < 13 ∧ mu (cf ks) L h b ≤ m ∧
  ∀ H', But t H H' → CC K H' p t dx e ks d → Q (nv (Wy (cf ks) d L h b)) H'
def sp_first (K : PySem.W.Frag) (m : Nat) : Sp := fun vs H Q _ => ∃ p t dx e ks d L h b, vs = [.ref p, nv L, nv h, nv b] ∧ CC K H p t dx e ks d ∧ 0 < L ∧ 0 < h ∧ L < 13 ∧ h < 13 ∧ b < 13 ∧ mu (cf ks) L h b ≤ m ∧
  ∀ H', But t H H' → CC K H' p t dx e ks d → Q (nv (Wy (cf ks) d L h b)) H'
def sp_prev (K : PySem.W.Frag) (m : Nat) : Sp := fun vs H Q E => ∃ m', m = m' + 1 ∧ sp_ways K m' vs H Q E
theorem first_of (T : Txt K mg base) {k m : Nat} (D : Okd P w K mg base k (a_ChainCounter_ways K) (sp_prev K m)) (hk : 3 ≤ k) : Okd P w K mg base (k + 1) (a_ChainCounter_with_first K) (sp_first K m) := by
  refine okd (d := d_ChainCounter_with_first) T 54 rfl rfl sc_ChainCounter_with_first (fun _ _ _ _ _ _ us hl => match us, hl with | [_, _, _, _], _ => rfl) (fun vs H Q E h => ?_) (fun cdv A outer s H vs Q E hr h => ?_)
  · obtain ⟨p, t, dx, e, ks, d, L, x, b, rfl, _⟩ := h; rfl
  obtain ⟨p, t, dx, e, ks, d, L, x, b, rfl, c, L0, x0, L1, x1, b1, hm, q⟩ := h
  obtain ⟨d1, d6⟩ := degs_6 c.dg
  refine ⟨_, (pss_cons (ps_par (i := 4) (j := 5) rfl sc_ChainCounter_with_first.nd rfl rfl (by decide) rfl rfl (pa_cons (pe_fld (pv 0) rfl) (pa_cons pe_int pa_nil)) (by rfl))
      (pss_cons (ps_for PassesOwn.never rfl (pi_range2 rfl T.f_range (pa_cons pe_int (pa_cons (pe_op op_add (pe_callB (call_min2 rfl) rfl T.f_min (by decide +kernel) (pa_cons (pe_callTy call_int1 rfl T.f_int (by decide +kernel) (pa_cons (pv 2) pa_nil)) (pa_cons (pv 4) pa_nil))) pe_int) pa_nil))) (pg_name (i := 6) sc_ChainCounter_with_first.nd rfl (Or.inl rfl))
      (pss_cons (ps_set (i := 7) sc_ChainCounter_with_first.nd rfl (Or.inl rfl) (pe_op op_mul (pe_cD (ok_choices T) (hr.mono (by omega)) T.g_choices (pa_cons (pe_op op_sub (pv 2) pe_int) (pa_cons (pe_op op_sub (pv 6) pe_int) pa_nil))) (pe_cD (ok_factorial T) (hr.mono (by omega)) T.g_factorial (pa_cons (pv 6) pa_nil))))
      (pss_cons (ps_set (i := 8) sc_ChainCounter_with_first.nd rfl (Or.inl rfl) (pe_ifExp (pt_cmpR op_gt (pv 1) pe_int (nomark _)) (pe_op op_sub (pv 4) (pv 6)) pe_int))
      (pss_one (ps_if (pt_cmpR op_le (pv 8) (pv 3) (nomark _)) (pss_cons (ps_set (i := 9) sc_ChainCounter_with_first.nd rfl (Or.inl rfl) (pe_op op_mul (pe_cD (ok_choices T) (hr.mono (by omega)) T.g_choices (pa_cons (pv 3) (pa_cons (pv 8) pa_nil))) (pe_cD (ok_factorial T) (hr.mono (by omega)) T.g_factorial (pa_cons (pv 8) pa_nil))))
      (pss_one (ps_aug (i := 5) sc_ChainCounter_with_first.nd rfl (Or.inl rfl) (pe_op op_mul (pe_op op_mul (pv 7) (pv 9)) (pe_mD D (hr.mono (by omega)) T.cl_ChainCounter T.m_ChainCounter_ways (pv 0) (pa_cons (pv 1) (pa_cons (pe_op op_sub (pv 2) (pv 6)) (pa_cons (pe_op op_sub (pv 3) (pv 8)) pa_nil))))) ip_add))) pss_nil)))))
      (pss_one (ps_ret (pv 5))))), ?_⟩
  refine ⟨_, rfl, p, _, dx, _, _, rfl, c.ob, T.cl_ChainCounter, T.n_ChainCounter_own_degree, fC_degree _ _ _, _, _, rfl, ?_⟩
  have hmin : (if (d : Int) < (x : Int) then (d : Int) else (x : Int)) = ((min x d : Nat) : Int) := by
    by_cases z : d < x
    · rw [if_pos (by omega)]; omega
    · rw [if_neg (by omega)]; omega
  refine ⟨_, rfl, .inl ⟨_, rfl, _, rfl, _, _, rfl, _, _, rfl, rfl, 1, ((min x d : Nat) : Int) + 1, ?_, ⟨by omega, by omega, by omega, by omega⟩, ?_⟩⟩
  · rw [← hmin]
  rw [show (((min x d : Nat) : Int) + 1 - 1).toNat = min x d by omega]
  refine for_it walk_range (fun i σ H' => ∃ o6 o7 o8 o9, σ = [some (.ref p), some (nv L), some (nv x), some (nv b), some (nv d), some (nv (sumT (Wy (cf ks) d) d L x b i)), o6, o7, o8, o9] ∧ But t H H' ∧ CC K H' p t dx e ks d) ⟨none, none, none, none, rfl, fun b o e _ => e, c⟩ (fun _ _ _ _ _ => trivial) ?_ ?_
  · rintro i v σ H' H'' hi ⟨o6, o7, o8, o9, rfl, s, c1⟩ ⟨rfl, rfl⟩
    have ei : V.int (1 + (i : Int)) = nv (i + 1) := by show V.int _ = V.int _; rw [show (1 + (i : Int)) = ((i + 1 : Nat) : Int) by omega]
    dsimp only
    rw [ei]
    have mu1 : mu (cf ks) L (x - (i + 1)) (b - rsF d L (i + 1)) + 1 ≤ mu (cf ks) L x b := by unfold mu; omega
    have mu2 : 1 ≤ m := by omega
    have r6 : rsF d L (i + 1) ≤ 6 := by unfold rsF; split <;> omega
    have e3 : [V.int ((x : Int) - 1), V.int (((i + 1 : Nat) : Int) - 1)] = [nv (x - 1), nv i] := by
      rw [show (x : Int) - 1 = ((x - 1 : Nat) : Int) by omega, show ((i + 1 : Nat) : Int) - 1 = (i : Int) by omega]
    have cx := ch_small (x - 1) (by omega) i (by omega)
    have fx := fac6 (i + 1) (by omega)
    refine ⟨_, rfl, _, _, rfl, rfl, _, rfl, _, _, rfl, rfl, x - 1, i, e3, by omega, by omega, _, rfl, i + 1, rfl, by omega, _, _, rfl, rfl, .inl ⟨by omega, by omega⟩, ?_⟩
    refine ⟨_, rfl, _, _, rfl, rfl, decide (1 < L), ?_, ?_⟩
    · show V.bl (decide ((1 : Int) < (L : Int))) = _
      rw [decide_eq_decide.mpr (show (1 : Int) < (L : Int) ↔ 1 < L by omega)]
    by_cases hL : 1 < L
    · rw [decide_eq_true hL]
      have eR : (d : Int) - ((i + 1 : Nat) : Int) = ((rsF d L (i + 1) : Nat) : Int) := by unfold rsF; rw [if_pos hL]; omega
      refine iteT ⟨_, rfl, _, rfl, _, _, rfl, rfl, ?_⟩
      refine ⟨_, rfl, _, rfl, _, _, rfl, rfl, decide (rsF d L (i + 1) ≤ b), ?_, ?_⟩
      · show V.bl (decide ((d : Int) - ((i + 1 : Nat) : Int) ≤ (b : Int))) = _
        rw [eR, decide_eq_decide.mpr (show ((rsF d L (i + 1) : Nat) : Int) ≤ (b : Int) ↔ rsF d L (i + 1) ≤ b by omega)]
      by_cases hb : rsF d L (i + 1) ≤ b
      · rw [decide_eq_true hb]
        have e7 : [nv b, V.int ((d : Int) - ((i + 1 : Nat) : Int))] = [nv b, nv (rsF d L (i + 1))] := by rw [eR]
        have e8 : [V.int ((d : Int) - ((i + 1 : Nat) : Int))] = [nv (rsF d L (i + 1))] := by rw [eR]
        have e9 : [V.ref p, nv L, V.int ((x : Int) - ((i + 1 : Nat) : Int)), V.int ((b : Int) - ((d : Int) - ((i + 1 : Nat) : Int)))] = [V.ref p, nv L, nv (x - (i + 1)), nv (b - rsF d L (i + 1))] := by
          rw [eR, show (x : Int) - ((i + 1 : Nat) : Int) = ((x - (i + 1) : Nat) : Int) by omega, show (b : Int) - ((rsF d L (i + 1) : Nat) : Int) = ((b - rsF d L (i + 1) : Nat) : Int) by omega]
        have cb := ch_small b (by omega) (rsF d L (i + 1)) (by omega)
        have fb := fac6 (rsF d L (i + 1)) (by omega)
        have pb : chN (x - 1) i * fac (i + 1) * (chN b (rsF d L (i + 1)) * fac (rsF d L (i + 1))) ≤ 1000 * 720 * (1000 * 720) := Nat.mul_le_mul (Nat.mul_le_mul (by omega) (by omega)) (Nat.mul_le_mul (by omega) (by omega))
        have pe : (((chN (x - 1) i : Nat) : Int) * ((fac (i + 1) : Nat) : Int)) * (((chN b (rsF d L (i + 1)) : Nat) : Int) * ((fac (rsF d L (i + 1)) : Nat) : Int)) = ((chN (x - 1) i * fac (i + 1) * (chN b (rsF d L (i + 1)) * fac (rsF d L (i + 1))) : Nat) : Int) := by
          rw [Int.natCast_mul, Int.natCast_mul, Int.natCast_mul]
        have pa : chN (x - 1) i * fac (i + 1) ≤ 1000 * 720 := Nat.mul_le_mul (by omega) (by omega)
        have pA : ((chN (x - 1) i : Nat) : Int) * ((fac (i + 1) : Nat) : Int) = ((chN (x - 1) i * fac (i + 1) : Nat) : Int) := (Int.natCast_mul _ _).symm
        refine iteT ⟨_, rfl, _, rfl, b, rsF d L (i + 1), e7, hb, by omega, _, rfl, rsF d L (i + 1), e8, by omega, _, _, rfl, rfl, .inl ⟨by omega, by omega⟩, ?_⟩
        refine ⟨_, rfl, _, rfl, _, rfl, _, _, rfl, rfl, .inl ⟨?_, ?_⟩, ?_⟩
        · show -2 ^ 64 < ((chN (x - 1) i : Nat) : Int) * ((fac (i + 1) : Nat) : Int)
          rw [pA]; omega
        · show ((chN (x - 1) i : Nat) : Int) * ((fac (i + 1) : Nat) : Int) < 2 ^ 64
          rw [pA]; omega
        refine ⟨_, rfl, p, dx, _, rfl, c1.ob, fC_no _ _ _ kc_w1, _, rfl, _, rfl, _, rfl, _, _, rfl, rfl, _, rfl, _, rfl, _, _, rfl, rfl, m - 1, by omega, p, t, dx, e, ks, d, L, x - (i + 1), b - rsF d L (i + 1), e9, c1, L1, by omega, by omega, by omega, fun H3 s3 c3 => ?_⟩
        refine ⟨_, _, rfl, rfl, .inl ⟨?_, ?_⟩, _, _, rfl, rfl, ?_⟩
        · show -2 ^ 64 < (((chN (x - 1) i : Nat) : Int) * ((fac (i + 1) : Nat) : Int)) * (((chN b (rsF d L (i + 1)) : Nat) : Int) * ((fac (rsF d L (i + 1)) : Nat) : Int))
          rw [pe]; omega
        · show (((chN (x - 1) i : Nat) : Int) * ((fac (i + 1) : Nat) : Int)) * (((chN b (rsF d L (i + 1)) : Nat) : Int) * ((fac (rsF d L (i + 1)) : Nat) : Int)) < 2 ^ 64
          rw [pe]; omega
        refine ⟨some (nv (i + 1)), some (V.int (((chN (x - 1) i : Nat) : Int) * ((fac (i + 1) : Nat) : Int))), some (V.int ((d : Int) - ((i + 1 : Nat) : Int))), some (V.int (((chN b (rsF d L (i + 1)) : Nat) : Int) * ((fac (rsF d L (i + 1)) : Nat) : Int))), ?_, s.trans s3, c3⟩
        have et : ((sumT (Wy (cf ks) d) d L x b i : Nat) : Int) + (((chN (x - 1) i : Nat) : Int) * ((fac (i + 1) : Nat) : Int)) * (((chN b (rsF d L (i + 1)) : Nat) : Int) * ((fac (rsF d L (i + 1)) : Nat) : Int)) * ((Wy (cf ks) d L (x - (i + 1)) (b - rsF d L (i + 1)) : Nat) : Int) = ((sumT (Wy (cf ks) d) d L x b (i + 1) : Nat) : Int) := by
          rw [pe, sumT, trm, if_pos hb, Int.natCast_add, Nat.add_sub_cancel, Int.natCast_mul (chN (x - 1) i * fac (i + 1) * (chN b (rsF d L (i + 1)) * fac (rsF d L (i + 1)))) _]
        exact congrArg (fun z : Int => [some (V.ref p), some (nv L), some (nv x), some (nv b), some (nv d), some (V.int z), some (nv (i + 1)), some (V.int (((chN (x - 1) i : Nat) : Int) * ((fac (i + 1) : Nat) : Int))), some (V.int ((d : Int) - ((i + 1 : Nat) : Int))), some (V.int (((chN b (rsF d L (i + 1)) : Nat) : Int) * ((fac (rsF d L (i + 1)) : Nat) : Int)))]) et
      · rw [decide_eq_false hb]
        refine iteF ⟨some (nv (i + 1)), some (V.int (((chN (x - 1) i : Nat) : Int) * ((fac (i + 1) : Nat) : Int))), some (V.int ((d : Int) - ((i + 1 : Nat) : Int))), o9, ?_, s, c1⟩
        rw [sumT, trm, if_neg hb]; rfl
    · rw [decide_eq_false hL]
      have eR : (0 : Int) = ((rsF d L (i + 1) : Nat) : Int) := by unfold rsF; rw [if_neg hL]; rfl
      refine iteF ?_
      refine ⟨_, rfl, _, rfl, _, _, rfl, rfl, decide (rsF d L (i + 1) ≤ b), ?_, ?_⟩
      · show V.bl (decide (0 ≤ (b : Int))) = _
        rw [eR, decide_eq_decide.mpr (show ((rsF d L (i + 1) : Nat) : Int) ≤ (b : Int) ↔ rsF d L (i + 1) ≤ b by omega)]
      by_cases hb : rsF d L (i + 1) ≤ b
      · rw [decide_eq_true hb]
        have e7 : [nv b, V.int (0)] = [nv b, nv (rsF d L (i + 1))] := by rw [eR]
        have e8 : [V.int (0)] = [nv (rsF d L (i + 1))] := by rw [eR]
        have e9 : [V.ref p, nv L, V.int ((x : Int) - ((i + 1 : Nat) : Int)), V.int ((b : Int) - (0))] = [V.ref p, nv L, nv (x - (i + 1)), nv (b - rsF d L (i + 1))] := by
          rw [eR, show (x : Int) - ((i + 1 : Nat) : Int) = ((x - (i + 1) : Nat) : Int) by omega, show (b : Int) - ((rsF d L (i + 1) : Nat) : Int) = ((b - rsF d L (i + 1) : Nat) : Int) by omega]
        have cb := ch_small b (by omega) (rsF d L (i + 1)) (by omega)
        have fb := fac6 (rsF d L (i + 1)) (by omega)
        have pb : chN (x - 1) i * fac (i + 1) * (chN b (rsF d L (i + 1)) * fac (rsF d L (i + 1))) ≤ 1000 * 720 * (1000 * 720) := Nat.mul_le_mul (Nat.mul_le_mul (by omega) (by omega)) (Nat.mul_le_mul (by omega) (by omega))
        have pe : (((chN (x - 1) i : Nat) : Int) * ((fac (i + 1) : Nat) : Int)) * (((chN b (rsF d L (i + 1)) : Nat) : Int) * ((fac (rsF d L (i + 1)) : Nat) : Int)) = ((chN (x - 1) i * fac (i + 1) * (chN b (rsF d L (i + 1)) * fac (rsF d L (i + 1))) : Nat) : Int) := by
          rw [Int.natCast_mul, Int.natCast_mul, Int.natCast_mul]
        have pa : chN (x - 1) i * fac (i + 1) ≤ 1000 * 720 := Nat.mul_le_mul (by omega) (by omega)
        have pA : ((chN (x - 1) i : Nat) : Int) * ((fac (i + 1) : Nat) : Int) = ((chN (x - 1) i * fac (i + 1) : Nat) : Int) := (Int.natCast_mul _ _).symm
        refine iteT ⟨_, rfl, _, rfl, b, rsF d L (i + 1), e7, hb, by omega, _, rfl, rsF d L (i + 1), e8, by omega, _, _, rfl, rfl, .inl ⟨by omega, by omega⟩, ?_⟩
        refine ⟨_, rfl, _, rfl, _, rfl, _, _, rfl, rfl, .inl ⟨?_, ?_⟩, ?_⟩
        · show -2 ^ 64 < ((chN (x - 1) i : Nat) : Int) * ((fac (i + 1) : Nat) : Int)
          rw [pA]; omega
        · show ((chN (x - 1) i : Nat) : Int) * ((fac (i + 1) : Nat) : Int) < 2 ^ 64
          rw [pA]; omega
        refine ⟨_, rfl, p, dx, _, rfl, c1.ob, fC_no _ _ _ kc_w1, _, rfl, _, rfl, _, rfl, _, _, rfl, rfl, _, rfl, _, rfl, _, _, rfl, rfl, m - 1, by omega, p, t, dx, e, ks, d, L, x - (i + 1), b - rsF d L (i + 1), e9, c1, L1, by omega, by omega, by omega, fun H3 s3 c3 => ?_⟩
        refine ⟨_, _, rfl, rfl, .inl ⟨?_, ?_⟩, _, _, rfl, rfl, ?_⟩
        · show -2 ^ 64 < (((chN (x - 1) i : Nat) : Int) * ((fac (i + 1) : Nat) : Int)) * (((chN b (rsF d L (i + 1)) : Nat) : Int) * ((fac (rsF d L (i + 1)) : Nat) : Int))
          rw [pe]; omega
        · show (((chN (x - 1) i : Nat) : Int) * ((fac (i + 1) : Nat) : Int)) * (((chN b (rsF d L (i + 1)) : Nat) : Int) * ((fac (rsF d L (i + 1)) : Nat) : Int)) < 2 ^ 64
          rw [pe]; omega
        refine ⟨some (nv (i + 1)), some (V.int (((chN (x - 1) i : Nat) : Int) * ((fac (i + 1) : Nat) : Int))), some (V.int (0)), some (V.int (((chN b (rsF d L (i + 1)) : Nat) : Int) * ((fac (rsF d L (i + 1)) : Nat) : Int))), ?_, s.trans s3, c3⟩
        have et : ((sumT (Wy (cf ks) d) d L x b i : Nat) : Int) + (((chN (x - 1) i : Nat) : Int) * ((fac (i + 1) : Nat) : Int)) * (((chN b (rsF d L (i + 1)) : Nat) : Int) * ((fac (rsF d L (i + 1)) : Nat) : Int)) * ((Wy (cf ks) d L (x - (i + 1)) (b - rsF d L (i + 1)) : Nat) : Int) = ((sumT (Wy (cf ks) d) d L x b (i + 1) : Nat) : Int) := by
          rw [pe, sumT, trm, if_pos hb, Int.natCast_add, Nat.add_sub_cancel, Int.natCast_mul (chN (x - 1) i * fac (i + 1) * (chN b (rsF d L (i + 1)) * fac (rsF d L (i + 1)))) _]
        exact congrArg (fun z : Int => [some (V.ref p), some (nv L), some (nv x), some (nv b), some (nv d), some (V.int z), some (nv (i + 1)), some (V.int (((chN (x - 1) i : Nat) : Int) * ((fac (i + 1) : Nat) : Int))), some (V.int (0)), some (V.int (((chN b (rsF d L (i + 1)) : Nat) : Int) * ((fac (rsF d L (i + 1)) : Nat) : Int)))]) et
      · rw [decide_eq_false hb]
        refine iteF ⟨some (nv (i + 1)), some (V.int (((chN (x - 1) i : Nat) : Int) * ((fac (i + 1) : Nat) : Int))), some (V.int (0)), o9, ?_, s, c1⟩
        rw [sumT, trm, if_neg hb]; rfl
  · rintro σ H' ⟨o6, o7, o8, o9, rfl, s, c1⟩
    have := q H' s c1
    rw [Wy_first (cf ks) d (by omega) (by omega)] at this
    exact ⟨_, rfl, this⟩
theorem ways_of (T : Txt K mg base) {k m : Nat} (D : Okd P w K mg base k (a_ChainCounter_ways K) (sp_prev K m)) (F : Okd P w K mg base (k + 1) (a_ChainCounter_with_first K) (sp_first K m)) : Okd P w K mg base (k + 2) (a_ChainCounter_ways K) (sp_ways K m) := by
  refine okd (d := d_ChainCounter_ways) T 53 rfl rfl sc_ChainCounter_ways (fun _ _ _ _ _ _ us hl => match us, hl with | [_, _, _, _], _ => rfl) (fun vs H Q E h => ?_) (fun cdv A outer s H vs Q E hr h => ?_)
  · obtain ⟨p, t, dx, e, ks, d, L, x, b, rfl, _⟩ := h; rfl
  obtain ⟨p, t, dx, e, ks, d, L, x, b, rfl, c, L1, x1, b1, hm, q⟩ := h
  refine ⟨_, (pss_cons (ps_if (pt_cmpR op_eq (pv 1) pe_int (nomark _)) (pss_one (ps_ret pe_int)) pss_nil)
      (pss_cons (ps_set (i := 4) sc_ChainCounter_ways.nd rfl (Or.inl rfl) (pe_tup (pa_cons (pv 1) (pa_cons (pv 2) (pa_cons (pv 3) pa_nil)))))
      (pss_cons (ps_if (pt_cmp (pc_dnotin (hu_of hr) (pv 4) (pe_fld (pv 0) rfl))) (pss_one (ps_if (pt_cmpR op_eq (pv 2) pe_int (nomark _)) (pss_one (ps_dput (hu_of hr) (pe_fld (pv 0) rfl) (pv 4) (pe_mD D (hr.mono (by omega)) T.cl_ChainCounter T.m_ChainCounter_ways (pv 0) (pa_cons (pe_op op_sub (pv 1) pe_int) (pa_cons (pv 3) (pa_cons (pe_dget2 (hu_of hr) (pe_fld (pv 0) rfl) (pe_op op_sub (pv 1) pe_int) pe_int ⟨rfl, rfl, rfl, rfl⟩) pa_nil)))) rfl)) (pss_one (ps_dput (hu_of hr) (pe_fld (pv 0) rfl) (pv 4) (pe_mD F (hr.mono (by omega)) T.cl_ChainCounter T.m_ChainCounter_with_first (pv 0) (pa_cons (pv 1) (pa_cons (pv 2) (pa_cons (pv 3) pa_nil)))) rfl)))) pss_nil)
      (pss_one (ps_ret (pe_dget (hu_of hr) (pe_fld (pv 0) rfl) (pv 4) (fun _ _ => rfl))))))), ?_⟩
  refine ⟨_, rfl, rfl, decide (L = 0), ?_, ?_⟩
  · have : (nv L = V.int 0) ↔ L = 0 := ⟨fun z => by have := V.int.inj z; omega, fun z => by rw [z]; rfl⟩
    show V.bl (decide (nv L = V.int 0)) = _
    rw [decide_eq_decide.mpr this]
  by_cases c0 : L = 0
  · rw [decide_eq_true c0]
    refine iteT ?_
    have := q H (fun b o e _ => e) c
    rw [c0, Wy_zero] at this
    exact this
  rw [decide_eq_false c0]
  refine iteF ⟨_, rfl, _, rfl, _, rfl, by show 3 ≤ sizeLine; decide, fun y hy => ?_⟩
  have s1 := same_new (o := .tup [nv L, nv x, nv b]) (Same.refl H) hy
  have c1 := c.same s1
  have hy1 : upd H y (.tup [nv L, nv x, nv b]) y = some (.tup ((k3 L x b).map kV)) := upd_same
  generalize upd H y (.tup [nv L, nv x, nv b]) = H1 at s1 c1 hy1
  obtain ⟨kvs, ht, ck⟩ := c1.kn
  have nyt : y ≠ t := ne_of hy1 ht (by intro z; cases z)
  refine ⟨_, rfl, _, rfl, p, _, dx, _, _, rfl, c1.ob, T.cl_ChainCounter, T.n_ChainCounter_own_known, fC_known _ _ _, t, _, rfl, DGet.t ht hy1, _, rfl, ?_⟩
  have fin : ∀ H2, But t H H2 → CC K H2 p t dx e ks d → H2 y = some (.tup ((k3 L x b).map kV)) → ∀ kv2, H2 t = some (.dT kv2) → CK (cf ks) d kv2 → valV kv2 (k3 L x b) ≠ none → Q (nv (Wy (cf ks) d L x b)) H2 := fun H2 s c2 _ kv2 _ _ _ => q H2 s c2
  cases ev : valV kvs (k3 L x b) with
  | some v =>
    have := ck.get ev
    subst this
    refine iteF ⟨_, rfl, p, _, dx, _, _, rfl, c1.ob, T.cl_ChainCounter, T.n_ChainCounter_own_known, fC_known _ _ _, _, rfl, t, nv (Wy (cf ks) d L x b), rfl, ?_, q H1 (But.of s1) c1⟩
    rw [← ev]
    exact DGet.t ht hy1
  | none =>
    refine iteT ⟨_, rfl, rfl, decide (x = 0), ?_, ?_⟩
    · have : (nv x = V.int 0) ↔ x = 0 := ⟨fun z => by have := V.int.inj z; omega, fun z => by rw [z]; rfl⟩
      show V.bl (decide (nv x = V.int 0)) = _
      rw [decide_eq_decide.mpr this]
    by_cases h0 : x = 0
    · rw [decide_eq_true h0]
      obtain ⟨o, ho, eo⟩ := dg_two c1.ch c.lt (L := L) (by omega)
      have wd : Wy (cf ks) d (L - 1) b (cL (cf ks) L) = Wy (cf ks) d L x b := by rw [h0]; exact (Wy_down (cf ks) d c0).symm
      have md := mu_down (c := cf ks) (b := b) c0
      have cle : cL (cf ks) L ≤ ks.length := by
        unfold cL; split
        · exact cf_le _ _
        · exact Nat.zero_le _
      have len := c.len
      have ea : [V.ref p, V.int ((L : Int) - 1), nv b, o.getD (V.int 0)] = [V.ref p, nv (L - 1), nv b, nv (cL (cf ks) L)] := by
        rw [eo, show (L : Int) - 1 = ((L - 1 : Nat) : Int) by omega]
      rw [h0] at hm
      refine iteT ⟨_, rfl, p, dx, _, rfl, c1.ob, fC_no _ _ _ kc_w1, _, rfl, _, _, rfl, rfl, _, rfl, _, rfl, p, _, dx, _, _, rfl, c1.ob, T.cl_ChainCounter, T.n_ChainCounter_own_chains, fC_chains _ _ _, e, rfl, .inl ⟨_, .inl c1.ch⟩, _, rfl, _, _, rfl, rfl, o, ho, m - 1, by omega, p, t, dx, e, ks, d, L - 1, b, cL (cf ks) L, ea, c1, by omega, b1, by omega, by omega, fun H2 s2 c2 => ?_⟩
      obtain ⟨kv2, ht2, ck2⟩ := c2.kn
      have hy2 := s2 _ _ hy1 nyt
      refine ⟨_, rfl, p, _, dx, _, _, rfl, c2.ob, T.cl_ChainCounter, T.n_ChainCounter_own_known, fC_known _ _ _, _, rfl, t, _, rfl, DPut.t ht2 hy2 ck2.len, ?_⟩
      have ck3 := ck2.put (L := L) (x := x) (b := b) L1 x1 b1
      have s3 : But t H2 (upd H2 t (.dT (putK kv2 (k3 L x b) (nv (Wy (cf ks) d L x b))))) := But.put
      have c3 := c2.but s3 ⟨_, upd_same, ck3⟩
      have hy3 := s3 _ _ hy2 nyt
      rw [wd]
      refine ⟨_, rfl, p, _, dx, _, _, rfl, c3.ob, T.cl_ChainCounter, T.n_ChainCounter_own_known, fC_known _ _ _, _, rfl, t, nv (Wy (cf ks) d L x b), rfl, ?_, q _ ((But.of s1).trans (s2.trans s3)) c3⟩
      have := DGet.t (k := k3 L x b) (a := t) (b := y) (kvs := putK kv2 (k3 L x b) (nv (Wy (cf ks) d L x b))) upd_same hy3
      rw [valV_put, if_pos rfl] at this
      exact this
    · rw [decide_eq_false h0]
      refine iteF ⟨_, rfl, p, dx, _, rfl, c1.ob, fC_no _ _ _ kc_w2, _, rfl, _, rfl, _, rfl, p, t, dx, e, ks, d, L, x, b, rfl, c1, by omega, by omega, L1, x1, b1, hm, fun H2 s2 c2 => ?_⟩
      obtain ⟨kv2, ht2, ck2⟩ := c2.kn
      have hy2 := s2 _ _ hy1 nyt
      refine ⟨_, rfl, p, _, dx, _, _, rfl, c2.ob, T.cl_ChainCounter, T.n_ChainCounter_own_known, fC_known _ _ _, _, rfl, t, _, rfl, DPut.t ht2 hy2 ck2.len, ?_⟩
      have ck3 := ck2.put (L := L) (x := x) (b := b) L1 x1 b1
      have s3 : But t H2 (upd H2 t (.dT (putK kv2 (k3 L x b) (nv (Wy (cf ks) d L x b))))) := But.put
      have c3 := c2.but s3 ⟨_, upd_same, ck3⟩
      have hy3 := s3 _ _ hy2 nyt
      refine ⟨_, rfl, p, _, dx, _, _, rfl, c3.ob, T.cl_ChainCounter, T.n_ChainCounter_own_known, fC_known _ _ _, _, rfl, t, nv (Wy (cf ks) d L x b), rfl, ?_, q _ ((But.of s1).trans (s2.trans s3)) c3⟩
      have := DGet.t (k := k3 L x b) (a := t) (b := y) (kvs := putK kv2 (k3 L x b) (nv (Wy (cf ks) d L x b))) upd_same hy3
      rw [valV_put, if_pos rfl] at this
      exact this
theorem ways_never (T : Txt K mg base) (k : Nat) : Okd P w K mg base (k + 1) (a_ChainCounter_ways K) (fun _ _ _ _ => False) := by
  refine okd (d := d_ChainCounter_ways) T 53 rfl rfl sc_ChainCounter_ways (fun _ _ _ _ _ _ us hl => match us, hl with | [_, _, _, _], _ => rfl) (fun vs H Q E h => h.elim) (fun cdv A outer s H vs Q E hr h => h.elim)
theorem ways_all (T : Txt K mg base) : ∀ m, Okd P w K mg base (2 * m + 5) (a_ChainCounter_ways K) (sp_ways K m)
  | 0 => ways_of T (k := 3) ((ways_never T 2).imp fun vs H Q E ⟨m', h, _⟩ => absurd h (by omega)) (first_of T ((ways_never T 2).imp fun vs H Q E ⟨m', h, _⟩ => absurd h (by omega)) (by omega))
  | m + 1 => by
    have D : Okd P w K mg base (2 * m + 5) (a_ChainCounter_ways K) (sp_prev K (m + 1)) := (ways_all T m).imp fun vs H Q E ⟨m', h, z⟩ => by
      cases h; exact z
    exact ways_of T D (first_of T D (by omega))
theorem ok_ChainCounter_ways (T : Txt K mg base) : Okd P w K mg base 60 (a_ChainCounter_ways K) (sp_ways K 24) := (ways_all T 24).mono (by decide)
end
end K35
end

section
set_option Elab.async false
set_option linter.all false
set_option maxRecDepth 100000
set_option maxHeartbeats 4000000
/-! W19: count_roots. -/
namespace K35
open PySem PySem.Spec PyProof.Rows L2 CM
theorem filt_sum (n : Nat) : ∀ ls : List Nat, (ls.filter fun l => decide (l < n + 1)).sum = (ls.filter fun l => decide (l < n)).sum + n * ls.count n
  | [] => rfl
  | a :: ls => by
    have ih := filt_sum n ls
    rw [List.filter_cons, List.filter_cons, List.count_cons]
    by_cases h1 : a < n
    · have e1 : decide (a < n) = true := decide_eq_true h1
      have e2 : decide (a < n + 1) = true := decide_eq_true (by omega)
      have e3 : (a == n) = false := by simp; omega
      simp only [e1, e2, e3, if_true, Bool.false_eq_true, if_false, List.sum_cons, Nat.add_zero]; omega
    · have e1 : decide (a < n) = false := decide_eq_false h1
      by_cases h2 : a = n
      · have e2 : decide (a < n + 1) = true := decide_eq_true (by omega)
        have e3 : (a == n) = true := by simp [h2]
        simp only [e1, e2, e3, if_true, Bool.false_eq_true, if_false, List.sum_cons, Nat.mul_add, Nat.mul_one]; omega
      · have e2 : decide (a < n + 1) = false := decide_eq_false (by omega)
        have e3 : (a == n) = false := by simp [h2]
        simp only [e1, e2, e3, Bool.false_eq_true, if_false, Nat.add_zero]; omega
theorem arr_sum (ls : List Nat) : ∀ n, ((arr n (cf ls)).map fun p => p.1 * p.2).sum = (ls.filter fun l => decide (l < n)).sum
  | 0 => by
    rw [List.filter_eq_nil_iff.mpr fun a _ => by simp]; rfl
  | n + 1 => by
    rw [filt_sum, ← arr_sum ls n]
    unfold arr
    rw [range_fm_succ, List.map_append, List.sum_append, ← count_getD]
    cases cf ls n with
    | none => simp
    | some c => simp
theorem filt_le (n : Nat) : ∀ ls : List Nat, (ls.filter fun l => decide (l < n)).sum ≤ ls.sum
  | [] => Nat.le_refl _
  | a :: ls => by
    have ih := filt_le n ls
    rw [List.filter_cons, List.sum_cons]
    split
    · rw [List.sum_cons]; omega
    · omega
theorem tab_sum (ls : List Nat) : ((tab ls).map fun p => p.1 * p.2).sum ≤ ls.sum := by
  rw [tab, arr_sum]; exact filt_le _ _
theorem fold_le {d : Nat} : ∀ (ps : List (Nat × Nat)) (a : Nat), (∀ p ∈ ps, ccr p.1 p.2 d ≤ 2 ^ (5 * (p.1 * p.2))) → ps.foldl (fun a p => a * ccr p.1 p.2 d) a ≤ a * 2 ^ (5 * (ps.map fun p => p.1 * p.2).sum)
  | [], a, _ => by simp
  | p :: ps, a, h => by
    rw [List.foldl_cons, List.map_cons, List.sum_cons, Nat.mul_add, Nat.pow_add, ← Nat.mul_assoc]
    refine Nat.le_trans (fold_le ps _ fun q hq => h q (List.mem_cons_of_mem _ hq)) ?_
    exact Nat.mul_le_mul_right _ (Nat.mul_le_mul_left _ (h p List.mem_cons_self))
theorem found_lt {ls : List Nat} {d : Nat} (lp : ∀ L ∈ ls, 0 < L) (hs : ls.sum ≤ 12) (hd : d ∈ degs) : (tab ls).foldl (fun a p => a * ccr p.1 p.2 d) 1 < 2 ^ 64 := by
  have h := fold_le (d := d) (tab ls) 1 fun p hp => by
    obtain ⟨L, c⟩ := p
    obtain ⟨b1, b2, b3, b4, b5⟩ := tab_small lp hs hp
    exact ccr_small d hd L b1 c b2 b3
  rw [Nat.one_mul] at h
  have t := tab_sum ls
  exact Nat.lt_of_le_of_lt h (Nat.pow_lt_pow_right (by omega) (by omega))
theorem dg_one {H : Hp} {e : Addr} {ks : List Nat} (h : H e = some (.dK (dk (tab ks)))) (lt : ∀ L ∈ ks, L < 13) (M : Nat) : ∃ o, DGet H e (V.int ((M : Int) - 1)) o ∧ o.getD (V.int 0) = nv ((if 1 ≤ M then cf ks (M - 1) else none).getD 0) := by
  obtain ⟨o, h1, h2⟩ := dg_two h lt (L := M + 1) (Nat.succ_pos M)
  refine ⟨o, ?_, ?_⟩
  · rw [show (M : Int) - 1 = ((M + 1 : Nat) : Int) - 2 by omega]; exact h1
  · rw [h2]
    unfold cL
    by_cases z : 1 ≤ M
    · rw [if_pos z, if_pos (by omega), show M + 1 - 2 = M - 1 by omega]
    · rw [if_neg z, if_neg (by omega)]; rfl
theorem mu_all {ks : List Nat} (M : Nat) : mu (cf ks) M ((cf ks M).getD 0) ((if 1 ≤ M then cf ks (M - 1) else none).getD 0) ≤ ks.length + M := by
  unfold mu
  have h := sL_le ks (M + 2)
  cases M with
  | zero =>
    have := cf_le ks 0
    show (cf ks 0).getD 0 + 0 + 0 + 0 ≤ _
    omega
  | succ M =>
    rw [if_pos (by omega), Nat.add_sub_cancel]
    have e1 : sL (cf ks) (M + 1 + 2) = sL (cf ks) (M + 2) + (cf ks (M + 1)).getD 0 := rfl
    have e2 : sL (cf ks) (M + 2) = sL (cf ks) (M + 1) + (cf ks M).getD 0 := rfl
    omega
theorem maxL_lt {b : Nat} : ∀ (xs : List Nat) (a : Nat), a < b → (∀ x ∈ xs, x < b) → maxL xs a < b
  | [], a, h, _ => h
  | x :: xs, a, h, hx => by
    show maxL xs (max a x) < b
    exact maxL_lt xs _ (by have := hx x List.mem_cons_self; omega) fun y hy => hx y (List.mem_cons_of_mem _ hy)
section
variable {P : Program} {w : World} {K : PySem.W.Frag} {mg : Str → Option Value} {base : Heap}
def sp_count_roots (K : PySem.W.Frag) : Sp := fun vs H Q _ => ∃ p n f d, vs = [.ref p, nv d] ∧ MapAt K H p n f ∧ d ∈ degs ∧ ∀ H', Same H H' → Q (nv (crt (lc n f) (lh n f) d)) H'
theorem ok_count_roots (T : Txt K mg base) : Okd P w K mg base 61 (a_count_roots K) (sp_count_roots K) := by
  refine okd (d := d_count_roots) T 55 rfl rfl sc_count_roots (fun _ _ _ _ _ _ us hl => match us, hl with | [_, _], _ => rfl) (fun vs H Q E h => ?_) (fun cdv A outer s H vs Q E hr h => ?_)
  · obtain ⟨p, n, f, d, rfl, _⟩ := h; rfl
  obtain ⟨p, n, f, d, rfl, m, hd, q⟩ := h
  obtain ⟨dx, dd, h1, h2⟩ := m.ob
  obtain ⟨d1, d2⟩ := degs_le hd
  have n2 := m.n2
  refine ⟨_, (pss_cons (ps_expr (pe_cD (ok_check_map T) (hr.mono (by decide)) T.g_check_map (pa_cons (pv 0) pa_nil)))
      (pss_cons (ps_expr (pe_cD (ok_check_degree T) (hr.mono (by decide)) T.g_check_degree (pa_cons (pv 1) pa_nil)))
      (pss_cons (ps_if (pt_cmpR op_gt (pe_prD (ok_Map_size T) (hr.mono (by decide)) T.cl_Map T.p_Map_size (pv 0)) (pe_glob rfl T.i_MAX_COUNTED.choose_spec.1 T.i_MAX_COUNTED.choose_spec.2) (nomark _)) (pss_one ps_never) pss_nil)
      (pss_cons (ps_set (i := 2) sc_count_roots.nd rfl (Or.inl rfl) (pe_cD (ok_shape_of T) (hr.mono (by decide)) T.g_shape_of (pa_cons (pv 0) pa_nil)))
      (pss_cons (ps_set (i := 3) sc_count_roots.nd rfl (Or.inl rfl) pe_int)
      (pss_cons (ps_for PassesOwn.never rfl (pi_items (pe_lk (pe_prD (ok_Shape_cycles T) (hr.mono (by decide)) T.cl_Shape T.p_Shape_cycles (pv 2)))) (pg_tup rfl (pgs_cons (pg_name (i := 4) sc_count_roots.nd rfl (Or.inl rfl)) (pgs_cons (pg_name (i := 5) sc_count_roots.nd rfl (Or.inl rfl)) pgs_nil)))
      (pss_one (ps_aug (i := 3) sc_count_roots.nd rfl (Or.inl rfl) (pe_cD (ok_count_cycle_roots T) (hr.mono (by decide)) T.g_count_cycle_roots (pa_cons (pv 4) (pa_cons (pv 5) (pa_cons (pv 1) pa_nil)))) iop_mul)))
      (pss_cons (ps_set (i := 6) sc_count_roots.nd rfl (Or.inl rfl) (pe_cD (ok_largest T) (hr.mono (by decide)) T.g_largest (pa_cons (pe_callTy (call_list_dK rfl) rfl T.f_list (by decide +kernel) (pa_cons (pe_prD (ok_Shape_chains T) (hr.mono (by decide)) T.cl_Shape T.p_Shape_chains (pv 2)) pa_nil)) (pa_cons pe_int pa_nil))))
      (pss_cons (ps_set (i := 7) sc_count_roots.nd rfl (Or.inl rfl) (pe_mkD (ok_ChainCounter_init T) T.mk_ChainCounter (hr.mono (by decide)) T.g_ChainCounter (pa_cons (pe_prD (ok_Shape_chains T) (hr.mono (by decide)) T.cl_Shape T.p_Shape_chains (pv 2)) (pa_cons (pv 1) pa_nil))))
      (pss_one (ps_ret (pe_op op_mul (pv 3) (pe_mD (ok_ChainCounter_ways T) (hr.mono (by decide)) T.cl_ChainCounter T.m_ChainCounter_ways (pv 7) (pa_cons (pv 6) (pa_cons (pe_dget2 (hu_of hr) (pe_prD (ok_Shape_chains T) (hr.mono (by decide)) T.cl_Shape T.p_Shape_chains (pv 2)) (pv 6) pe_int ⟨rfl, rfl, rfl, rfl⟩) (pa_cons (pe_dget2 (hu_of hr) (pe_prD (ok_Shape_chains T) (hr.mono (by decide)) T.cl_Shape T.p_Shape_chains (pv 2)) (pe_op op_sub (pv 6) pe_int) pe_int ⟨rfl, rfl, rfl, rfl⟩) pa_nil))))))))))))))), ?_⟩
  refine ⟨_, rfl, p, n, f, rfl, m, ?_⟩
  refine ⟨_, rfl, d, rfl, d1, d2, ?_⟩
  refine ⟨_, rfl, p, dx, _, rfl, h1, p, n, f, rfl, m, _, _, rfl, rfl, false, ?_, iteF ?_⟩
  · show V.bl (decide ((40 : Int) < (n : Int))) = _
    rw [decide_eq_false (by omega)]
  refine ⟨_, rfl, p, n, f, rfl, m, fun x H1 hx s1 sh => ?_⟩
  obtain ⟨dxs, ce, he, o1, o2, o3⟩ := sh.ob
  refine ⟨_, rfl, x, dxs, _, rfl, o1, x, _, _, rfl, sh, fun d1 hd1 => ⟨d1, _, rfl, upd_same, True.intro, fun od => ?_⟩⟩
  refine ⟨d1, od, _, rfl, upd_same, ?_⟩
  generalize lc n f = ls at *
  generalize lh n f = ks at *
  have s0 : Same H1 (upd (upd H1 d1 (.dK (dk (tab ls)))) d1 (.frz od (.dK (dk (tab ls))))) := fun b o eb => by
    have nb := ne_of_none eb hd1
    rw [upd_ne nb, upd_ne nb]; exact eb
  have l0 : (upd (upd H1 d1 (.dK (dk (tab ls)))) d1 (.frz od (.dK (dk (tab ls))))) d1 = some (.frz od (.dK (dk (tab ls)))) := upd_same
  generalize (upd (upd H1 d1 (.dK (dk (tab ls)))) d1 (.frz od (.dK (dk (tab ls))))) = H2 at s0 l0
  have sm := sh.sh.sum
  refine for_it walk_dk (fun i σ H' => ∃ o4 o5, σ = [some (.ref p), some (nv d), some (.ref x), some (nv (((tab ls).take i).foldl (fun a p => a * ccr p.1 p.2 d) 1)), o4, o5, none, none] ∧ Same H2 H')
    ⟨none, none, rfl, Same.refl _⟩ (fun i σ H' _ ⟨_, _, _, s⟩ => s _ _ l0) ?_ ?_
  · rintro i v σ H' H'' hi ⟨o4, o5, rfl, s⟩ ⟨U, L, c, rfl, hU, rfl, e⟩
    obtain ⟨b1, b2, b3, b4, b5⟩ := tab_small sh.sh.lp (by omega) (List.mem_of_getElem? e)
    have cl := ccr_lt hd b4 b3
    refine ⟨U, _, rfl, SqT.of upd_same, rfl, _, _, rfl, _, _, rfl, rfl, ?_⟩
    refine ⟨_, rfl, _, rfl, _, rfl, _, rfl, L, c, d, rfl, b4, b3, hd, fun H3 s3 => ⟨_, _, rfl, rfl, .inr ⟨by omega, by omega⟩, some (nv L), some (nv c), ?_, (same_new s hU).trans s3⟩⟩
    rw [List.take_succ, e, List.foldl_append]
    show [some (V.ref p), some (nv d), some (V.ref x), some (V.int _), some (nv L), some (nv c), none, none] = [some (V.ref p), some (nv d), some (V.ref x), some (V.int (((_ * ccr L c d : Nat)) : Int)), some (nv L), some (nv c), none, none]
    rw [Int.natCast_mul]
  · rintro σ H3 ⟨o4, o5, rfl, s3⟩
    rw [List.take_length]
    have fl := found_lt sh.sh.lp (by omega) hd
    have s03 := s0.trans s3
    have lt := sh.sh.lt.2
    have len : ks.length ≤ 12 := by have := length_le_sum sh.sh.kp; omega
    have eB : (dk (tab ks)).map (fun kv => kV kv.1) = li ((tab ks).map (·.1)) := by rw [dk, dv, iv, li, List.map_map, List.map_map, List.map_map]; rfl
    have hM : maxL ((tab ks).map (·.1)) 0 < 13 := maxL_lt _ _ (by omega) fun z hz => by
      obtain ⟨r, hr, rfl⟩ := List.mem_map.mp hz
      obtain ⟨a, b⟩ := r
      exact (arr_mem.mp hr).1
    have ec : crt ls ks d = (tab ls).foldl (fun a p => a * ccr p.1 p.2 d) 1 * Wy (cf ks) d (maxL ((tab ks).map (·.1)) 0) ((cf ks (maxL ((tab ks).map (·.1)) 0)).getD 0) ((if 1 ≤ maxL ((tab ks).map (·.1)) 0 then cf ks (maxL ((tab ks).map (·.1)) 0 - 1) else none).getD 0) := rfl
    rw [ec] at q
    refine ⟨_, rfl, x, dxs, _, rfl, s03 _ _ o1, x, _, _, rfl, sh.same s03, fun d2 hd2 => ⟨d2, _, rfl, upd_same, fun aK hK => ?_⟩⟩
    rw [eB]
    have sa := same_new (o := .lst (li ((tab ks).map (·.1)))) (same_new (o := .dK (dk (tab ks))) s03 hd2) hK
    refine ⟨aK, _, 0, rfl, upd_same, ?_⟩
    generalize upd (upd H3 d2 (.dK (dk (tab ks)))) aK (.lst (li ((tab ks).map (·.1)))) = H4 at sa
    generalize hMe : maxL ((tab ks).map (·.1)) 0 = M at *
    refine ⟨_, rfl, x, dxs, _, rfl, sa _ _ o1, x, _, _, rfl, sh.same sa, fun d3 hd3 => ⟨_, rfl, fun y dy ny ndy nyx => ?_⟩⟩
    have sb := same_new (o := .dK (dk (tab ks))) sa hd3
    have h3 : upd H4 d3 (.dK (dk (tab ks))) d3 = some (.dK (dk (tab ks))) := upd_same
    generalize upd H4 d3 (.dK (dk (tab ks))) = H5 at sb h3 ny ndy
    have sc : Same H1 (upd H5 dy (.own y)) := same_new sb ndy
    refine ⟨y, dy, d3, ks, d, rfl, upd_same, ?_, lt, len, hd, fun H6 t s6 ht c => ⟨rfl, ?_⟩⟩
    · rw [upd_ne (ne_of_none h3 ny), upd_ne (ne_of_none h3 ndy)]; exact h3
    have sd : Same H1 H6 := fun b o eb => by
      have nb : b ≠ y := ne_of_none (sb _ _ eb) ny
      exact s6 b o (by rw [upd_ne nb]; exact sc _ _ eb) nb
    have hr := cf_le ks M
    have hr2 : ((if 1 ≤ M then cf ks (M - 1) else none).getD 0) ≤ ks.length := by
      split
      · exact cf_le _ _
      · exact Nat.zero_le _
    have hmu := mu_all (ks := ks) M
    refine ⟨_, rfl, _, rfl, y, dy, _, rfl, c.ob, fC_no _ _ _ kc_w1, _, rfl, ?_⟩
    refine ⟨_, rfl, x, dxs, _, rfl, sd _ _ o1, x, _, _, rfl, sh.same sd, fun d4 hd4 => ⟨d4, rfl, .inl ⟨_, .inl upd_same⟩, _, rfl, (cf ks M).map nv, dgetR (.inl upd_same) (tab_rep lt) rfl, ?_⟩⟩
    have se := same_new (o := .dK (dk (tab ks))) sd hd4
    have c4 := c.same (same_new (o := .dK (dk (tab ks))) (Same.refl H6) hd4)
    refine ⟨_, rfl, x, dxs, _, rfl, se _ _ o1, x, _, _, rfl, sh.same se, fun d5 hd5 => ?_⟩
    obtain ⟨o, ho, eo⟩ := dg_one (H := upd (upd H6 d4 (.dK (dk (tab ks)))) d5 (.dK (dk (tab ks)))) (e := d5) upd_same lt M
    refine ⟨d5, rfl, .inl ⟨_, .inl upd_same⟩, _, rfl, _, _, rfl, rfl, o, ho, y, t, dy, d3, ks, d, M, (cf ks M).getD 0, (if 1 ≤ M then cf ks (M - 1) else none).getD 0, ?_, c4.same (same_new (Same.refl _) hd5), hM, by omega, by omega, by omega, fun H7 s7 c7 => ⟨_, _, rfl, rfl, .inl ⟨by omega, by omega⟩, ?_⟩⟩
    · rw [eo]
      cases cf ks M <;> rfl
    have sf := same_new (o := .dK (dk (tab ks))) se hd5
    show Q (V.int (_ * _)) H7
    rw [← Int.natCast_mul]
    refine q H7 (s1.trans fun b o eb => ?_)
    have nb : b ≠ y := ne_of_none (sb _ _ eb) ny
    have nt : b ≠ t := ne_of_none (show upd (upd H5 dy (.own y)) y (.ins (C_ChainCounter K) dy []) b = some o by rw [upd_ne nb]; exact sc _ _ eb) ht
    exact s7 b o (sf _ _ eb) nt
end
end K35
end

section
set_option Elab.async false
set_option linter.all false
set_option maxRecDepth 100000
set_option maxHeartbeats 4000000
/-! W20: the law's hands and draws. -/
namespace K35
open PySem PySem.Spec PyProof.Rows L2 CM
def PoolAt (H : Hp) (a : Addr) : Prop := ∃ x y : Int, H a = some (.lst [.int x, .int y]) ∧ 0 ≤ x ∧ 0 ≤ y ∧ y < 2147483647
theorem PoolAt.same {H H' : Hp} {a : Addr} (p : PoolAt H a) (s : Same H H') : PoolAt H' a := by
  obtain ⟨x, y, h, z⟩ := p
  exact ⟨x, y, s _ _ h, z⟩
theorem cut_ints (ns : List Int) (lo hi : Option Int) : ∃ ms : List Int, cutV (ns.map V.int) lo hi = ms.map V.int := by
  unfold cutV
  exact ⟨_, by rw [← List.map_drop, ← List.map_take]⟩
theorem tn {z : Int} {s : Nat} (h0 : 0 ≤ z) (h1 : z < (s : Int)) : ∃ r : Nat, z = (r : Int) ∧ r < s := ⟨z.toNat, by omega, by omega⟩
section
variable {P : Program} {w : World} {K : PySem.W.Frag} {mg : Str → Option Value} {base : Heap}
def sp_law_hand (K : PySem.W.Frag) : Sp := fun vs H Q _ => ∃ (a : Addr) (ns : List Int) (k : Nat), vs = [.ref a, nv k] ∧ SqL K H a (ns.map V.int) ∧ ns.length ≤ 1000 ∧ k ≤ 1000 ∧ ∀ b H', Same H H' → H b = none → PoolAt H' b → Q (.ref b) H'
theorem ok_law_hand (T : Txt K mg base) : Okd P w K mg base 1 (a_law_hand K) (sp_law_hand K) := by
  refine okd (d := d_law_hand) T 75 rfl rfl sc_law_hand (fun _ _ _ _ _ _ us hl => match us, hl with | [_, _], _ => rfl) (fun vs H Q E h => ?_) (fun cdv A outer s H vs Q E hr h => ?_)
  · obtain ⟨a, ns, k, rfl, _⟩ := h; rfl
  obtain ⟨a, ns, k, rfl, ha, hl, hk, q⟩ := h
  refine ⟨_, (pss_cons (ps_set (i := 2) sc_law_hand.nd rfl (Or.inl rfl) (pe_ix ix_list (pe_op op_cat (pe_slice sl_list (pv 0) (po_some (pv 1)) (po_some (pe_op op_add (pv 1) pe_int))) (pe_lst (pa_cons pe_int pa_nil))) pe_int (fun _ _ => rfl)))
      (pss_cons (ps_set (i := 3) sc_law_hand.nd rfl (Or.inl rfl) (pe_op op_mod (pe_op op_mul (pe_op op_add (pe_op op_add (pe_op op_mod (pv 2) pe_int) (pe_op op_mul pe_int (pv 1))) pe_int) pe_int) pe_int))
      (pss_one (ps_ret (pe_lst (pa_cons (pe_op op_mul (pe_callTy call_int1 rfl T.f_int (by decide +kernel) (pa_cons (pe_cmpR op_ge (pv 2) (pe_op op_pow pe_int pe_int) (nomark _)) pa_nil)) (pv 2)) (pa_cons (pv 3) pa_nil))))))), ?_⟩
  refine ⟨_, rfl, _, rfl, k, rfl, _, rfl, _, _, rfl, rfl, _, rfl, a, _, rfl, ha, fun c hc => ?_⟩
  obtain ⟨ms, em⟩ := cut_ints ns (some (k : Int)) (some ((k : Int) + 1))
  have lm := cutV_length (ns.map V.int) (some (k : Int)) (some ((k : Int) + 1))
  rw [List.length_map] at lm
  have sc := same_new (o := .lst (cutV (ns.map V.int) (some (k : Int)) (some ((k : Int) + 1)))) (Same.refl H) hc
  refine ⟨by show 1 ≤ sizeLine; decide, fun e he => ?_⟩
  have se := same_new (o := .lst [V.int 0]) sc he
  have h1 : upd (upd H c (.lst (cutV (ns.map V.int) (some (k : Int)) (some ((k : Int) + 1))))) e (.lst [V.int 0]) c = some (.lst (cutV (ns.map V.int) (some (k : Int)) (some ((k : Int) + 1)))) := by
    rw [upd_ne (ne_of_none upd_same he)]; exact upd_same
  have sl : 2000 < sizeLine := by decide
  refine ⟨c, e, _, _, rfl, rfl, h1, upd_same, by show _ + 1 ≤ _; omega, fun g hg => ?_⟩
  have sg := same_new (o := .lst (cutV (ns.map V.int) (some (k : Int)) (some ((k : Int) + 1)) ++ [V.int 0])) se hg
  obtain ⟨z, ez⟩ : ∃ z, (cutV (ns.map V.int) (some (k : Int)) (some ((k : Int) + 1)) ++ [V.int 0])[0]? = some (V.int z) := by
    rw [em]
    cases ms with
    | nil => exact ⟨0, rfl⟩
    | cons z ms => exact ⟨z, rfl⟩
  refine ⟨g, _, 0, _, rfl, rfl, SqL.of upd_same, atI_nat (j := 0) ez, ?_⟩
  generalize upd (upd (upd H c (.lst (cutV (ns.map V.int) (some (k : Int)) (some ((k : Int) + 1))))) e (.lst [V.int 0])) g (.lst (cutV (ns.map V.int) (some (k : Int)) (some ((k : Int) + 1)) ++ [V.int 0])) = H1 at sg
  refine ⟨_, rfl, _, _, rfl, rfl, by show (0 : Int) < 2147483647; decide, _, rfl, _, _, rfl, rfl, .inl ⟨by omega, by omega⟩, _, _, rfl, rfl, _, _, rfl, rfl, _, _, rfl, rfl, .inr ⟨by omega, by omega⟩, _, _, rfl, rfl, by show (0 : Int) < 2147483629; decide, ?_⟩
  refine ⟨_, rfl, _, _, rfl, rfl, ⟨by omega, by omega, by decide⟩, _, _, rfl, rfl, .inr ⟨_, rfl, _, rfl, _, _, rfl, rfl, .inl ⟨?_, ?_⟩, _, rfl, by show 2 ≤ sizeLine; decide, fun b hb => ?_⟩⟩
  · split <;> omega
  · split <;> omega
  · refine q b _ (same_new sg hb) (sg.free hb) ⟨_, _, upd_same, ?_, ?_, ?_⟩
    · show 0 ≤ (if decide ((10 : Int) ^ (18 : Int).toNat ≤ z) = true then (1 : Int) else 0) * z
      by_cases hz : (10 : Int) ^ (18 : Int).toNat ≤ z
      · rw [decide_eq_true hz, if_pos rfl, Int.one_mul]
        refine Int.le_trans ?_ hz
        decide
      · rw [decide_eq_false hz, if_neg (by decide), Int.zero_mul]; decide
    · exact Int.emod_nonneg _ (by decide)
    · refine Int.lt_trans (Int.emod_lt_of_pos _ (by decide)) (by decide)
def sp_law_draw : Sp := fun vs H Q _ => ∃ (a : Addr) (s : Nat), vs = [.ref a, nv s] ∧ PoolAt H a ∧ 1 ≤ s ∧ s ≤ 12 ∧ ∀ r H', r < s → But a H H' → PoolAt H' a → Q (nv r) H'
theorem ok_law_draw (T : Txt K mg base) : Okd P w K mg base 1 (a_law_draw K) sp_law_draw := by
  refine okd (d := d_law_draw) T 76 rfl rfl sc_law_draw (fun _ _ _ _ _ _ us hl => match us, hl with | [_, _], _ => rfl) (fun vs H Q E h => ?_) (fun cdv A outer s H vs Q E hr h => ?_)
  · obtain ⟨a, sz, rfl, _⟩ := h; rfl
  obtain ⟨a, sz, rfl, ⟨x, y, ha, x0, y0, y1⟩, s1, s2, q⟩ := h
  refine ⟨_, (pss_cons (ps_if (pt_cmpR op_gt (pe_ix ix_list (pv 0) pe_int (fun _ _ => rfl)) pe_int (nomark _)) (pss_cons (ps_set (i := 2) sc_law_draw.nd rfl (Or.inl rfl) (pe_op op_mod (pe_ix ix_list (pv 0) pe_int (fun _ _ => rfl)) (pv 1)))
      (pss_cons (ps_asg (pe_op op_fdiv (pe_ix ix_list (pv 0) pe_int (fun _ _ => rfl)) (pv 1)) (pg_sub (pv 0) pe_int set_list))
      (pss_one (ps_ret (pv 2))))) pss_nil)
      (pss_cons (ps_asg (pe_op op_mod (pe_op op_add (pe_op op_mul (pe_ix ix_list (pv 0) pe_int (fun _ _ => rfl)) pe_int) pe_int) pe_int) (pg_sub (pv 0) pe_int set_list))
      (pss_one (ps_ret (pe_op op_mod (pe_op op_fdiv (pe_op op_mod (pe_op op_mul (pe_ix ix_list (pv 0) pe_int (fun _ _ => rfl)) (pe_ix ix_list (pv 0) pe_int (fun _ _ => rfl))) pe_int) pe_int) (pv 1)))))), ?_⟩
  refine ⟨_, rfl, a, _, 0, _, rfl, rfl, SqL.of ha, atI_nat (j := 0) (show [V.int x, V.int y][0]? = some (V.int x) from rfl), _, _, rfl, rfl, decide (0 < x), rfl, ?_⟩
  by_cases h : 0 < x
  · rw [decide_eq_true h]
    refine iteT ⟨_, rfl, a, _, 0, _, rfl, rfl, SqL.of ha, atI_nat (j := 0) (show [V.int x, V.int y][0]? = some (V.int x) from rfl), _, rfl, _, _, rfl, rfl, by show (0 : Int) < (sz : Int); omega, ?_⟩
    obtain ⟨r, er, hr'⟩ := tn (Int.emod_nonneg x (b := (sz : Int)) (by omega)) (Int.emod_lt_of_pos x (show (0 : Int) < (sz : Int) by omega))
    refine ⟨_, rfl, a, _, 0, _, rfl, rfl, SqL.of ha, atI_nat (j := 0) (show [V.int x, V.int y][0]? = some (V.int x) from rfl), _, rfl, _, _, rfl, rfl, ⟨by omega, by omega⟩, ?_⟩
    refine ⟨_, rfl, a, _, 0, 0, rfl, rfl, ha, rfl, ?_⟩
    refine ⟨_, rfl, ?_⟩
    have := q r (upd H a (.lst [.int (x / (sz : Int)), .int y])) hr' But.put ⟨_, _, upd_same, Int.ediv_nonneg x0 (by omega), y0, y1⟩
    rw [show nv r = V.int (x % (sz : Int)) by rw [er]] at this
    exact this
  · rw [decide_eq_false h]
    have w0 := Int.emod_nonneg (y * 48271 + 11) (b := 2147483647) (by decide)
    have w1 := Int.emod_lt_of_pos (y * 48271 + 11) (show (0 : Int) < 2147483647 by decide)
    refine iteF ⟨_, rfl, a, _, 1, _, rfl, rfl, SqL.of ha, atI_nat (j := 1) (show [V.int x, V.int y][1]? = some (V.int y) from rfl), _, _, rfl, rfl, .inr ⟨by omega, by omega⟩, _, _, rfl, rfl, _, _, rfl, rfl, by show (0 : Int) < 2147483647; decide, ?_⟩
    refine ⟨_, rfl, a, _, 1, 1, rfl, rfl, ha, rfl, ?_⟩
    have hz : upd H a (.lst ([V.int x, V.int y].set 1 (V.int ((y * 48271 + 11) % 2147483647)))) a = some (.lst [V.int x, V.int ((y * 48271 + 11) % 2147483647)]) := upd_same
    have b1 : But a H (upd H a (.lst ([V.int x, V.int y].set 1 (V.int ((y * 48271 + 11) % 2147483647))))) := But.put
    have gz : ∀ z : Int, 0 ≤ z * z % 2147483629 / 64 % (sz : Int) ∧ z * z % 2147483629 / 64 % (sz : Int) < (sz : Int) := fun z => ⟨Int.emod_nonneg _ (by omega), Int.emod_lt_of_pos _ (by omega)⟩
    dsimp only
    generalize upd H a (.lst ([V.int x, V.int y].set 1 (V.int ((y * 48271 + 11) % 2147483647)))) = H1 at hz b1
    generalize (y * 48271 + 11) % 2147483647 = z at *
    refine ⟨_, rfl, a, _, 1, _, rfl, rfl, SqL.of hz, atI_nat (j := 1) (show [V.int x, V.int z][1]? = some (V.int z) from rfl), _, rfl, a, _, 1, _, rfl, rfl, SqL.of hz, atI_nat (j := 1) (show [V.int x, V.int z][1]? = some (V.int z) from rfl), _, _, rfl, rfl, .inl ⟨by omega, by omega⟩, _, _, rfl, rfl, by show (0 : Int) < 2147483629; decide, _, _, rfl, rfl, ⟨by omega, by omega⟩, _, rfl, _, _, rfl, rfl, by show (0 : Int) < (sz : Int); omega, ?_⟩
    obtain ⟨r, er, hr'⟩ := tn (gz z).1 (gz z).2
    have := q r H1 hr' b1 ⟨x, z, hz, x0, w0, w1⟩
    rw [show nv r = V.int (z * z % 2147483629 / 64 % (sz : Int)) by rw [er]] at this
    exact this
end
end K35
end

section
set_option Elab.async false
set_option linter.all false
set_option maxRecDepth 100000
set_option maxHeartbeats 4000000
/-! W21: the law's arrows. -/
namespace K35
open PySem PySem.Spec PyProof.Rows L2 CM
theorem erase_perm : ∀ (l : List Nat) (r : Nat) (h : r < l.length), (l[r] :: l.eraseIdx r).Perm l
  | a :: l, 0, _ => List.Perm.refl _
  | a :: l, r + 1, h => by
    rw [List.eraseIdx_cons_succ, List.getElem_cons_succ]
    exact (List.Perm.swap a _ _).trans ((erase_perm l r (by simpa using h)).cons a)
theorem seq_at {r n : Nat} (h : r < n) : seqIndex? (r : Int) n = some r := by
  have z : ¬ ((r : Int) < 0) := by omega
  unfold seqIndex?
  simp only [if_neg z]
  rw [decide_eq_true (show (0 : Int) ≤ r by omega), decide_eq_true (show (r : Int) < n by omega)]
  rfl
structure AI (n i : Nat) (left : List Nat) (ps : List (Nat × Nat)) : Prop where
  kn : (ps.map (·.1)).Nodup
  kl : ∀ k ∈ ps.map (·.1), k < i
  vn : (ps.map (·.2) ++ left).Nodup
  vl : ∀ x ∈ ps.map (·.2) ++ left, x < n
  ln : n ≤ left.length + i
theorem AI.start (n : Nat) : AI n 0 (List.range n) [] := ⟨List.nodup_nil, fun _ h => (by cases h), List.nodup_range, fun x h => List.mem_range.mp h, by rw [List.length_range]; omega⟩
theorem AI.skip {n i : Nat} {left : List Nat} {ps : List (Nat × Nat)} (h : AI n i left ps) : AI n (i + 1) left ps :=
  ⟨h.kn, fun k hk => by have := h.kl k hk; omega, h.vn, h.vl, by have := h.ln; omega⟩
theorem AI.short {n i : Nat} {left : List Nat} {ps : List (Nat × Nat)} (h : AI n i left ps) : left.length ≤ n ∧ ps.length ≤ n := by
  have := nodup_sub h.vn (m := List.range n) fun x hx => List.mem_range.mpr (h.vl x hx)
  rw [List.length_append, List.length_map, List.length_range] at this
  omega
theorem AI.add {n i r : Nat} {left : List Nat} {ps : List (Nat × Nat)} (h : AI n i left ps) (hr : r < left.length) : AI n (i + 1) (left.eraseIdx r) (ps ++ [(i, left[r])]) := by
  have p : ((ps ++ [(i, left[r])]).map (·.2) ++ left.eraseIdx r).Perm (ps.map (·.2) ++ left) := by
    rw [List.map_append, List.append_assoc]
    exact (List.Perm.refl _).append (erase_perm _ _ hr)
  refine ⟨?_, fun k hk => ?_, p.nodup_iff.mpr h.vn, fun x hx => h.vl x (p.mem_iff.mp hx), ?_⟩
  · rw [List.map_append]
    refine List.nodup_append.mpr ⟨h.kn, by simp, fun a ha b hb => ?_⟩
    have : b = i := by simpa using hb
    have := h.kl a ha
    omega
  · rw [List.map_append] at hk
    rcases List.mem_append.mp hk with hk | hk
    · have := h.kl k hk; omega
    · have : k = i := by simpa using hk
      omega
  · rw [List.length_eraseIdx_of_lt hr]
    have := h.ln
    omega
theorem AI.done {n i : Nat} {left : List Nat} {ps : List (Nat × Nat)} (h : AI n i left ps) (hi : i ≤ n) : ∃ f, Rep ps f ∧ PI n f := by
  have r : Rep ps (fun x => lk ps x) := ⟨h.kn, fun {x y} => (lk_iff h.kn).symm⟩
  refine ⟨_, r, ⟨fun {x y} e => ?_, fun {x x' y} e e' => ?_⟩⟩
  · have m := r.mem.mpr e
    exact ⟨Nat.lt_of_lt_of_le (h.kl x (List.mem_map.mpr ⟨_, m, rfl⟩)) hi, h.vl y (List.mem_append_left _ (List.mem_map.mpr ⟨_, m, rfl⟩))⟩
  · have m := r.mem.mpr e
    have m' := r.mem.mpr e'
    have nd : (ps.map (·.2)).Nodup := (List.nodup_append.mp h.vn).1
    obtain ⟨i, hi, ei⟩ := List.mem_iff_getElem.mp m
    obtain ⟨j, hj, ej⟩ := List.mem_iff_getElem.mp m'
    have ij : i = j := by
      refine (List.getElem_inj (h₀ := by rw [List.length_map]; exact hi) (h₁ := by rw [List.length_map]; exact hj) nd).mp ?_
      rw [List.getElem_map, List.getElem_map, ei, ej]
    subst ij
    have := ei.symm.trans ej
    exact (Prod.mk.inj this).1
theorem full_pF {n : Nat} {ps : List (Nat × Nat)} {f : PF} (r : Rep ps f) (h : PI n f) (e : ps.map (·.1) = List.range n) : ∃ p, Pm n p ∧ f = pF n p := by
  have tot : ∀ x, x < n → f x = some ((f x).getD 0) := fun x hx => by
    have : x ∈ ps.map (·.1) := by rw [e]; exact List.mem_range.mpr hx
    obtain ⟨q, hq, rfl⟩ := List.mem_map.mp this
    have := r.mem.mp (show (q.1, q.2) ∈ ps from hq)
    rw [this]; rfl
  refine ⟨fun x => (f x).getD 0, ⟨fun {x} hx => (h.dom (tot x hx)).2, fun {x y} hx hy z => ?_⟩, ?_⟩
  · refine h.inj (tot x hx) ?_
    rw [tot y hy]; exact congrArg some z.symm
  · funext x
    unfold pF
    by_cases hx : x < n
    · rw [if_pos hx]; exact tot x hx
    · rw [if_neg hx]
      cases z : f x with
      | none => rfl
      | some y => exact absurd (h.dom z).1 hx
theorem li_erase (xs : List Nat) (r : Nat) : (li xs).eraseIdx r = li (xs.eraseIdx r) := by
  unfold li
  induction xs generalizing r with
  | nil => cases r <;> rfl
  | cons a xs ih =>
    cases r with
    | zero => rfl
    | succ r => exact congrArg (nv a :: ·) (ih r)
section
variable {P : Program} {w : World} {K : PySem.W.Frag} {mg : Str → Option Value} {base : Heap}
def sp_law_full : Sp := fun vs H Q _ => ∃ (a : Addr) (n : Nat), vs = [.ref a, nv n] ∧ PoolAt H a ∧ 1 ≤ n ∧ n ≤ 12 ∧ ∀ d H' ps p, But a H H' → PoolAt H' a → H' d = some (.dK (dk ps)) → Rep ps (pF n p) → Pm n p → Q (.ref d) H'
theorem ok_law_full (T : Txt K mg base) : Okd P w K mg base 2 (a_law_full K) sp_law_full := by
  refine okd (d := d_law_full) T 78 rfl rfl sc_law_full (fun _ _ _ _ _ _ us hl => match us, hl with | [_, _], _ => rfl) (fun vs H Q E h => ?_) (fun cdv A outer s H vs Q E hr h => ?_)
  · obtain ⟨a, n, rfl, _⟩ := h; rfl
  obtain ⟨a, n, rfl, pa, n1, n2, q⟩ := h
  refine ⟨_, (pss_cons (ps_par (i := 2) (j := 3) rfl sc_law_full.nd rfl rfl (by decide) rfl rfl (pa_cons (pe_listRg rfl rfl T.f_list (prg_1 rfl T.f_range (pv 1))) (pa_cons pe_dnewK pa_nil)) (by rfl))
      (pss_cons (ps_for PassesOwn.never rfl (pi_range1 rfl T.f_range (pa_cons (pv 1) pa_nil)) (pg_name (i := 4) sc_law_full.nd rfl (Or.inl rfl))
      (pss_one (ps_dput (hu_of hr) (pv 3) (pv 4) (pe_bm PySem.F.plainAttrs_list PySem.F.slot_list_pop PySem.F.type_list_pop mt_popAt (pv 2) (pa_cons (pe_cD (ok_law_draw T) (hr.mono (by decide)) T.g_law_draw (pa_cons (pv 0) (pa_cons (pe_callB call_len_seq rfl T.f_len (by decide +kernel) (pa_cons (pv 2) pa_nil)) pa_nil))) pa_nil)) rfl)))
      (pss_one (ps_ret (pv 3))))), ?_⟩
  refine ⟨_, rfl, n, rfl, ⟨by omega, by omega, by omega, by omega, by omega⟩, fun aL hL => ?_⟩
  have eL : rgV 0 (n : Int) = li (List.range n) := by
    unfold rgV li
    rw [show ((n : Int) - 0).toNat = n by omega]
    refine List.map_congr_left fun i _ => ?_
    show V.int _ = V.int _
    rw [Int.zero_add]
  rw [eL]
  intro aD hD
  have sL := same_new (o := .lst (li (List.range n))) (Same.refl H) hL
  have sD := same_new (o := .dK []) sL hD
  obtain ⟨x0, y0, pa', pz⟩ := pa
  have nLa : aL ≠ a := (ne_of_none pa' hL).symm
  have nDa : aD ≠ a := (ne_of_none (sL _ _ pa') hD).symm
  have nLD : aL ≠ aD := ne_of_none upd_same hD
  refine ⟨_, _, rfl, ?_⟩
  refine ⟨_, rfl, n, rfl, by omega, by omega, ?_⟩
  rw [Int.toNat_natCast]
  refine for_it walk_range0 (fun i σ H' => ∃ o4 left ps, σ = [some (.ref a), some (nv n), some (.ref aL), some (.ref aD), o4] ∧ But a H H' ∧ PoolAt H' a ∧ H' aL = some (.lst (li left)) ∧ H' aD = some (.dK (dk ps)) ∧ AI n i left ps ∧ ps.map (·.1) = List.range i)
    ⟨none, List.range n, [], rfl, But.of sD, ⟨x0, y0, sD _ _ pa', pz⟩, by rw [upd_ne nLD]; exact upd_same, upd_same, AI.start n, rfl⟩ (fun _ _ _ _ _ => trivial) ?_ ?_
  · rintro i v σ H' H'' hi ⟨o4, left, ps, rfl, s, pl, hl, hd, ai, ek⟩ ⟨rfl, rfl⟩
    have sh := ai.short
    have ln := ai.ln
    refine ⟨_, rfl, .inl ⟨rfl, _, SqL.of hl⟩, _, rfl, _, rfl, aL, _, rfl, .inl (SqL.of hl), a, left.length, by rw [li_length], pl, by omega, by omega, fun r H3 hr3 b3 p3 => ?_⟩
    have hl3 := b3 _ _ hl nLa
    have hd3 := b3 _ _ hd nDa
    refine ⟨aL, li left, r, r, nv left[r], rfl, rfl, hl3, by omega, by omega, ?_, li_get (List.getElem?_eq_getElem hr3), ?_⟩
    · rw [li_length]; exact seq_at hr3
    rw [li_erase]
    refine ⟨_, rfl, _, rfl, aD, _, rfl, DPut.k (k := nk i) (by rw [upd_ne nLD.symm]; exact hd3) ?_, ?_⟩
    · rw [dk_length]; exact small12 (by omega)
    have nk' : i ∉ ps.map (·.1) := fun z => by have := ai.kl i z; omega
    have eput : putK (dk ps) (nk i) (nv left[r]) = dk (ps ++ [(i, left[r])]) := by
      rw [dk, put_new _ (by rw [iv_keys]; exact nk'), dk, iv, iv, List.map_append]; rfl
    rw [eput]
    have hd4 : upd (upd H3 aL (.lst (li (left.eraseIdx r)))) aD (.dK (dk (ps ++ [(i, left[r])]))) aD = some (.dK (dk (ps ++ [(i, left[r])]))) := upd_same
    have hl4 : upd (upd H3 aL (.lst (li (left.eraseIdx r)))) aD (.dK (dk (ps ++ [(i, left[r])]))) aL = some (.lst (li (left.eraseIdx r))) := by rw [upd_ne nLD]; exact upd_same
    refine ⟨some (nv i), left.eraseIdx r, ps ++ [(i, left[r])], rfl, fun b o eb nb => ?_, ?_, hl4, hd4, ai.add hr3, ?_⟩
    · rw [upd_ne (ne_of_none (sL _ _ eb) hD), upd_ne (ne_of_none eb hL)]
      exact b3 _ _ (s _ _ eb nb) nb
    · obtain ⟨x1, y1, g, gz⟩ := p3
      exact ⟨x1, y1, by rw [upd_ne nDa.symm, upd_ne nLa.symm]; exact g, gz⟩
    · rw [List.map_append, ek, List.range_succ]; rfl
  · rintro σ H' ⟨o4, left, ps, rfl, s, pl, hl, hd, ai, ek⟩
    obtain ⟨f, r, pi⟩ := ai.done (Nat.le_refl _)
    obtain ⟨p, pm, rfl⟩ := full_pF r pi ek
    exact ⟨_, rfl, q aD H' ps p s pl hd r pm⟩
end
end K35
end

section
set_option Elab.async false
set_option linter.all false
set_option maxRecDepth 100000
set_option maxHeartbeats 4000000
/-! W22: the law's arrows, the same. -/
namespace K35
open PySem PySem.Spec PyProof.Rows L2 CM
section
variable {P : Program} {w : World} {K : PySem.W.Frag} {mg : Str → Option Value} {base : Heap}
def sp_law_arrows : Sp := fun vs H Q _ => ∃ (a : Addr) (n wy : Nat), vs = [.ref a, nv n, nv wy] ∧ PoolAt H a ∧ 1 ≤ n ∧ n ≤ 12 ∧ ∀ d H' ps f, But a H H' → PoolAt H' a → H' d = some (.dK (dk ps)) → Rep ps f → PI n f → Q (.ref d) H'
theorem ok_law_arrows (T : Txt K mg base) : Okd P w K mg base 2 (a_law_arrows K) sp_law_arrows := by
  refine okd (d := d_law_arrows) T 77 rfl rfl sc_law_arrows (fun _ _ _ _ _ _ us hl => match us, hl with | [_, _, _], _ => rfl) (fun vs H Q E h => ?_) (fun cdv A outer s H vs Q E hr h => ?_)
  · obtain ⟨a, n, wy, rfl, _⟩ := h; rfl
  obtain ⟨a, n, wy, rfl, pa, n1, n2, q⟩ := h
  refine ⟨_, (pss_cons (ps_par (i := 3) (j := 4) rfl sc_law_arrows.nd rfl rfl (by decide) rfl rfl (pa_cons (pe_listRg rfl rfl T.f_list (prg_1 rfl T.f_range (pv 1))) (pa_cons pe_dnewK pa_nil)) (by rfl))
      (pss_cons (ps_for PassesOwn.never rfl (pi_range1 rfl T.f_range (pa_cons (pv 1) pa_nil)) (pg_name (i := 5) sc_law_arrows.nd rfl (Or.inl rfl))
      (pss_one (ps_if (pt_cmpR op_lt (pe_cD (ok_law_draw T) (hr.mono (by decide)) T.g_law_draw (pa_cons (pv 0) (pa_cons pe_int pa_nil))) (pv 2) (nomark _)) (pss_one (ps_dput (hu_of hr) (pv 4) (pv 5) (pe_bm PySem.F.plainAttrs_list PySem.F.slot_list_pop PySem.F.type_list_pop mt_popAt (pv 3) (pa_cons (pe_cD (ok_law_draw T) (hr.mono (by decide)) T.g_law_draw (pa_cons (pv 0) (pa_cons (pe_callB call_len_seq rfl T.f_len (by decide +kernel) (pa_cons (pv 3) pa_nil)) pa_nil))) pa_nil)) rfl)) pss_nil)))
      (pss_one (ps_ret (pv 4))))), ?_⟩
  refine ⟨_, rfl, n, rfl, ⟨by omega, by omega, by omega, by omega, by omega⟩, fun aL hL => ?_⟩
  have eL : rgV 0 (n : Int) = li (List.range n) := by
    unfold rgV li
    rw [show ((n : Int) - 0).toNat = n by omega]
    refine List.map_congr_left fun i _ => ?_
    show V.int _ = V.int _
    rw [Int.zero_add]
  rw [eL]
  intro aD hD
  have sL := same_new (o := .lst (li (List.range n))) (Same.refl H) hL
  have sD := same_new (o := .dK []) sL hD
  obtain ⟨x0, y0, pa', pz⟩ := pa
  have nLa : aL ≠ a := (ne_of_none pa' hL).symm
  have nDa : aD ≠ a := (ne_of_none (sL _ _ pa') hD).symm
  have nLD : aL ≠ aD := ne_of_none upd_same hD
  refine ⟨_, _, rfl, ?_⟩
  refine ⟨_, rfl, n, rfl, by omega, by omega, ?_⟩
  rw [Int.toNat_natCast]
  refine for_it walk_range0 (fun i σ H' => ∃ o4 left ps, σ = [some (.ref a), some (nv n), some (nv wy), some (.ref aL), some (.ref aD), o4] ∧ But a H H' ∧ PoolAt H' a ∧ H' aL = some (.lst (li left)) ∧ H' aD = some (.dK (dk ps)) ∧ AI n i left ps)
    ⟨none, List.range n, [], rfl, But.of sD, ⟨x0, y0, sD _ _ pa', pz⟩, by rw [upd_ne nLD]; exact upd_same, upd_same, AI.start n⟩ (fun _ _ _ _ _ => trivial) ?_ ?_
  · rintro i v σ H' H'' hi ⟨o4, left, ps, rfl, s, pl, hl, hd, ai⟩ ⟨rfl, rfl⟩
    have sh := ai.short
    have ln := ai.ln
    refine ⟨_, rfl, a, 4, rfl, pl, by omega, by omega, fun r0 H2 hr0 b2 p2 => ?_⟩
    have hl2 := b2 _ _ hl nLa
    have hd2 := b2 _ _ hd nDa
    have s2 : But a H H2 := s.trans b2
    refine ⟨_, rfl, _, _, rfl, rfl, _, rfl, ?_⟩
    refine ite2 (fun _ => ?_) (fun _ => ⟨some (nv i), left, ps, rfl, s2, p2, hl2, hd2, ai.skip⟩)
    refine ⟨_, rfl, .inl ⟨rfl, _, SqL.of hl2⟩, _, rfl, _, rfl, aL, _, rfl, .inl (SqL.of hl2), a, left.length, by rw [li_length], p2, by omega, by omega, fun r H3 hr3 b3 p3 => ?_⟩
    have hl3 := b3 _ _ hl2 nLa
    have hd3 := b3 _ _ hd2 nDa
    refine ⟨aL, li left, r, r, nv left[r], rfl, rfl, hl3, by omega, by omega, ?_, li_get (List.getElem?_eq_getElem hr3), ?_⟩
    · rw [li_length]; exact seq_at hr3
    rw [li_erase]
    refine ⟨_, rfl, _, rfl, aD, _, rfl, DPut.k (k := nk i) (by rw [upd_ne nLD.symm]; exact hd3) ?_, ?_⟩
    · rw [dk_length]; exact small12 (by omega)
    have nk' : i ∉ ps.map (·.1) := fun z => by have := ai.kl i z; omega
    have eput : putK (dk ps) (nk i) (nv left[r]) = dk (ps ++ [(i, left[r])]) := by
      rw [dk, put_new _ (by rw [iv_keys]; exact nk'), dk, iv, iv, List.map_append]; rfl
    rw [eput]
    have hd4 : upd (upd H3 aL (.lst (li (left.eraseIdx r)))) aD (.dK (dk (ps ++ [(i, left[r])]))) aD = some (.dK (dk (ps ++ [(i, left[r])]))) := upd_same
    have hl4 : upd (upd H3 aL (.lst (li (left.eraseIdx r)))) aD (.dK (dk (ps ++ [(i, left[r])]))) aL = some (.lst (li (left.eraseIdx r))) := by rw [upd_ne nLD]; exact upd_same
    refine ⟨some (nv i), left.eraseIdx r, ps ++ [(i, left[r])], rfl, fun b o eb nb => ?_, ?_, hl4, hd4, ai.add hr3⟩
    · rw [upd_ne (ne_of_none (sL _ _ eb) hD), upd_ne (ne_of_none eb hL)]
      exact b3 _ _ (s2 _ _ eb nb) nb
    · obtain ⟨x1, y1, g, gz⟩ := p3
      exact ⟨x1, y1, by rw [upd_ne nDa.symm, upd_ne nLa.symm]; exact g, gz⟩
  · rintro σ H' ⟨o4, left, ps, rfl, s, pl, hl, hd, ai⟩
    obtain ⟨f, r, pi⟩ := ai.done (Nat.le_refl _)
    exact ⟨_, rfl, q aD H' ps f s pl hd r pi⟩
def sp_law_same (K : PySem.W.Frag) : Sp := fun vs H Q _ => ∃ p r t n f g b, vs = [.ref p, .ref r, .ref t] ∧ MapAt K H p n f ∧ MapAt K H r n g ∧ MapAt K H t n b ∧ ∀ H', Same H H' → Q (.bl (eqF n (rnF n b f) g)) H'
theorem ok_law_same (T : Txt K mg base) : Okd P w K mg base 7 (a_law_same K) (sp_law_same K) := by
  refine okd (d := d_law_same) T 79 rfl rfl sc_law_same (fun _ _ _ _ _ _ us hl => match us, hl with | [_, _, _], _ => rfl) (fun vs H Q E h => ?_) (fun cdv A outer s H vs Q E hr h => ?_)
  · obtain ⟨p, r, t, n, f, g, b, rfl, _⟩ := h; rfl
  obtain ⟨p, r, t, n, f, g, b, rfl, m, m', mb, q⟩ := h
  refine ⟨_, (pss_one (ps_ret (pe_cmpR (cmp_oD (ok_Map_eq T) (hr.mono (by decide)) T.m_Map_eq) (pe_op (op_oD (ok_Map_mul T) (hr.mono (by decide)) (T.c.ex 7) T.m_Map_mul) (pe_op (op_oD (ok_Map_mul T) (hr.mono (by decide)) (T.c.ex 7) T.m_Map_mul) (pe_un (un_oD (ok_Map_invert T) (hr.mono (by decide)) T.m_Map_invert) (pv 2)) (pv 0)) (pv 2)) (pv 1) (nomark _)))), ?_⟩
  obtain ⟨dx'', d'', h1'', h2''⟩ := mb.ob
  refine ⟨_, rfl, t, dx'', _, rfl, h1'', t, n, b, rfl, mb, fun x1 H1 hx1 s1 k1 => ?_⟩
  have m1 := m.same s1
  obtain ⟨_, _, z1, _⟩ := k1.ob
  obtain ⟨_, _, z2, _⟩ := m1.ob
  refine ⟨_, rfl, x1, p, _, _, _, _, rfl, rfl, z1, z2, x1, p, n, _, f, rfl, k1, m1, fun x2 H2 hx2 s2 k2 => ?_⟩
  have m2 := mb.same (s1.trans s2)
  obtain ⟨_, _, z3, _⟩ := k2.ob
  obtain ⟨_, _, z4, _⟩ := m2.ob
  refine ⟨_, rfl, x2, t, _, _, _, _, rfl, rfl, z3, z4, x2, t, n, _, b, rfl, k2, m2, fun x3 H3 hx3 s3 k3 => ?_⟩
  have s123 := s1.trans (s2.trans s3)
  have m3 := m'.same s123
  obtain ⟨_, _, z5, _⟩ := k3.ob
  obtain ⟨_, _, z6, _⟩ := m3.ob
  exact ⟨_, rfl, x3, r, _, _, _, _, rfl, rfl, z5, z6, x3, r, n, _, g, rfl, k3, m3, q H3 s123⟩
end
end K35
end

section
set_option linter.all false
/-! M9: what a renaming keeps. -/
namespace K35
open CM
theorem lcm_fold (a b : Nat) : a / Nat.gcd a b * b = Nat.lcm a b := by
  unfold Nat.lcm
  exact Nat.div_mul_right_comm (Nat.gcd_dvd_left a b) b
theorem lcmL_perm {xs ys : List Nat} (p : xs.Perm ys) : lcmL xs = lcmL ys := by
  unfold lcmL
  refine p.foldl_eq' (fun x _ y _ z => ?_) 1
  rw [lcm_fold, lcm_fold, lcm_fold, lcm_fold, Nat.lcm_assoc, Nat.lcm_comm x y, ← Nat.lcm_assoc]
theorem maxL_perm {xs ys : List Nat} (p : xs.Perm ys) (b : Nat) : maxL xs b = maxL ys b := by
  unfold maxL
  exact p.foldl_eq' (fun x _ y _ z => by omega) b
theorem shEq_perm {ls ls' ks ks' : List Nat} (h1 : ls.Perm ls') (h2 : ks.Perm ks') : shEq ls ks ls' ks' = true := by
  unfold shEq
  rw [cf_perm h1, cf_perm h2, eqF_refl, eqF_refl]; rfl
theorem csym_perm {ls ls' ks ks' : List Nat} (h1 : ls.Perm ls') (h2 : ks.Perm ks') : csym ls ks = csym ls' ks' := by
  unfold csym tab
  rw [cf_perm h1, cf_perm h2]
theorem fateO_ren {n : Nat} {p : Nat → Nat} {f g : PF} (P : Pm n p) (hf : PI n f) (r : Ren n p f g) {x : Nat} (hx : x < n) : fateO n g (p x) = fateO n f x := by
  unfold fateO
  rw [row_ren P hf r hx, List.length_map, Ren.it hf r _ x hx, Option.isSome_map]
theorem beq_iff {a b : Bool} (h : a = true ↔ b = true) : a = b := by
  cases a <;> cases b <;> simp_all
theorem commute_ren {n : Nat} {p : Nat → Nat} {f g f' g' : PF} (P : Pm n p) (hf : PI n f) (hg : PI n g) (hf' : PI n f') (hg' : PI n g') (r : Ren n p f f') (r' : Ren n p g g') : eqF n (mulF f' g') (mulF g' f') = eqF n (mulF f g) (mulF g f) := by
  refine beq_iff ?_
  rw [eqF_iff (mulF_pi hf' hg') (mulF_pi hg' hf'), eqF_iff (mulF_pi hf hg) (mulF_pi hg hf)]
  have a := Ren.mul hf r r'
  have b := Ren.mul hg r' r
  constructor
  · intro e
    rw [← e] at b
    exact Ren.back P (mulF_pi hf hg) (mulF_pi hg hf) a b
  · intro e
    rw [← e] at b
    exact Ren.uniq P (mulF_pi hf' hg') (mulF_pi hg' hf') a b
theorem leF_and {n : Nat} {f g : PF} (hf : PI n f) (hg : PI n g) : leF n f g = true ↔ andF f g = f := by
  rw [leF_iff hf]
  constructor
  · intro h
    funext x
    unfold andF
    cases e : f x with
    | none => simp
    | some y => simp [h x y e]
  · intro h x y e
    have := congrFun h x
    unfold andF at this
    rw [e] at this
    by_cases z : g x = some y
    · exact z
    · simp [z] at this
      exact this.symm
theorem leF_ren {n : Nat} {p : Nat → Nat} {f g f' g' : PF} (P : Pm n p) (hf : PI n f) (hg : PI n g) (hf' : PI n f') (hg' : PI n g') (r : Ren n p f f') (r' : Ren n p g g') : leF n f' g' = leF n f g := by
  refine beq_iff ?_
  rw [leF_and hf' hg', leF_and hf hg]
  have a := Ren.and P hf hg r r'
  constructor
  · intro e
    rw [e] at a
    exact Ren.back P (andF_pi hf) hf a r
  · intro e
    rw [e] at a
    exact Ren.uniq P (andF_pi hf') hf' a r
/-! shortest ways -/
theorem fac_dvd : ∀ s a b : Nat, a + b = s → fac a * fac b ∣ fac s
  | 0, a, b, h => by
    have h1 : a = 0 := by omega
    have h2 : b = 0 := by omega
    subst h1; subst h2
    exact Nat.dvd_refl _
  | s + 1, 0, b, h => by
    have : b = s + 1 := by omega
    subst this
    rw [show fac 0 = 1 from rfl, Nat.one_mul]
    exact Nat.dvd_refl _
  | s + 1, a + 1, 0, h => by
    have : s = a := by omega
    subst this
    rw [show fac 0 = 1 from rfl, Nat.mul_one]
    exact Nat.dvd_refl _
  | s + 1, a + 1, b + 1, h => by
    have h1 := fac_dvd s a (b + 1) (by omega)
    have h2 := fac_dvd s (a + 1) b (by omega)
    have e : fac (s + 1) = fac s * (a + 1) + fac s * (b + 1) := by
      rw [← Nat.mul_add, fac]
      congr 1
      omega
    rw [e]
    refine Nat.dvd_add ?_ ?_
    · have := Nat.mul_dvd_mul_right h1 (a + 1)
      rw [show fac (a + 1) * fac (b + 1) = fac a * fac (b + 1) * (a + 1) by rw [show fac (a + 1) = fac a * (a + 1) from rfl, Nat.mul_right_comm]]
      exact this
    · have := Nat.mul_dvd_mul_right h2 (b + 1)
      rw [show fac (a + 1) * fac (b + 1) = fac (a + 1) * fac b * (b + 1) by rw [show fac (b + 1) = fac b * (b + 1) from rfl, Nat.mul_assoc]]
      exact this
def dn : List Nat → Nat
  | [] => 1
  | k :: ks => fac (k - 1) * dn ks
def pw : List Nat → Nat
  | [] => 1
  | k :: ks => k ^ (k - 2) * pw ks
theorem dn_pos : ∀ ks, 0 < dn ks
  | [] => Nat.one_pos
  | k :: ks => Nat.mul_pos (fac_pos _) (dn_pos ks)
theorem dn_perm {ks ls : List Nat} (p : ks.Perm ls) : dn ks = dn ls := by
  induction p with
  | nil => rfl
  | cons x _ ih => rw [dn, dn, ih]
  | swap x y l => rw [dn, dn, dn, dn, Nat.mul_left_comm]
  | trans _ _ h1 h2 => exact h1.trans h2
theorem pw_perm {ks ls : List Nat} (p : ks.Perm ls) : pw ks = pw ls := by
  induction p with
  | nil => rfl
  | cons x _ ih => rw [pw, pw, ih]
  | swap x y l => rw [pw, pw, pw, pw, Nat.mul_left_comm]
  | trans _ _ h1 h2 => exact h1.trans h2
theorem cshF_eq (a k : Nat) : cshF a k = a * k ^ (k - 2) / fac (k - 1) := by
  unfold cshF
  by_cases h : 1 < k
  · rw [if_pos h]
  · rw [if_neg h, show k - 2 = 0 by omega, show k - 1 = 0 by omega, Nat.pow_zero, Nat.mul_one]
    exact (Nat.div_one a).symm
theorem csh_fold : ∀ (ks : List Nat) (a : Nat), dn ks ∣ a → ks.foldl cshF a * dn ks = a * pw ks
  | [], a, _ => rfl
  | k :: ks, a, h => by
    rw [dn] at h
    obtain ⟨c, rfl⟩ := h
    have e : cshF (fac (k - 1) * dn ks * c) k = dn ks * c * k ^ (k - 2) := by
      rw [cshF_eq, Nat.mul_assoc, Nat.mul_assoc, Nat.mul_div_cancel_left _ (fac_pos _), Nat.mul_assoc]
    rw [List.foldl_cons, e, dn, pw]
    have ih := csh_fold ks (dn ks * c * k ^ (k - 2)) ⟨c * k ^ (k - 2), by simp only [Nat.mul_assoc]⟩
    rw [Nat.mul_left_comm, ih]
    simp only [Nat.mul_assoc]
theorem dn_dvd : ∀ (ks : List Nat) (D : Nat), (ks.map (· - 1)).sum ≤ D → dn ks ∣ fac D
  | [], D, _ => Nat.one_dvd _
  | k :: ks, D, h => by
    rw [List.map_cons, List.sum_cons] at h
    exact Nat.dvd_trans (Nat.mul_dvd_mul_left _ (dn_dvd ks (D - (k - 1)) (by omega))) (fac_dvd D (k - 1) (D - (k - 1)) (by omega))
theorem csh_perm {D : Nat} {ks ls : List Nat} (p : ks.Perm ls) (h : (ks.map (· - 1)).sum ≤ D) : csh D ks = csh D ls := by
  have h' : (ls.map (· - 1)).sum ≤ D := by rw [← (p.map (· - 1)).sum_nat]; exact h
  have a := csh_fold ks _ (dn_dvd ks D h)
  have b := csh_fold ls _ (dn_dvd ls D h')
  rw [dn_perm p, pw_perm p, ← b] at a
  exact Nat.eq_of_mul_eq_mul_right (dn_pos ls) a
theorem pred_sum : ∀ ks : List Nat, (∀ k ∈ ks, 0 < k) → (ks.map (· - 1)).sum + ks.length = ks.sum
  | [], _ => rfl
  | k :: ks, h => by
    have := pred_sum ks fun x hx => h x (List.mem_cons_of_mem _ hx)
    have := h k List.mem_cons_self
    rw [List.map_cons, List.sum_cons, List.sum_cons, List.length_cons]; omega
theorem csh_ren {n : Nat} {p : Nat → Nat} {f g f' g' : PF} (P : Pm n p) (hf : PI n f) (hf' : PI n f') (hg : PI n g) (hg' : PI n g') (r : Ren n p f f') (r' : Ren n p g g') : csh (dist n f' g') (pl n f' g') = csh (dist n f g) (pl n f g) := by
  have pp := pl_ren P hf hf' hg hg' r r'
  rw [dist_ren P hf hf' hg hg' r r']
  refine csh_perm pp ?_
  have a := pred_sum _ (pl_pos hf' hg')
  rw [pl_sum hf' hg', pp.length_eq] at a
  unfold dist
  have : (pl n f g).length = (prts n f g).length := by unfold pl; rw [List.length_map]
  omega
end K35
end

section
set_option linter.all false
/-! D3: tuples, Nones as data. -/
namespace K35
open PySem PySem.Spec PyProof.Rows L2 CM
def pO : Option Nat → PyData
  | none => .none
  | some k => .int (k : Int)
def vO (o : Option Nat) : V := (o.map nv).getD .non
theorem pO_lay (o : Option Nat) : (pO o).canLay0 = true ∧ (pO o).depth ≤ 1 := by
  cases o <;> simp [pO, PyData.canLay0, PyData.depth]
abbrev pOs (l : List (Option Nat)) : PyData := .list (l.map pO)
theorem pOs_lay (l : List (Option Nat)) : (pOs l).canLay0 = true ∧ (pOs l).depth ≤ 2 := by
  have h1 := lay_map (fun x => (pO_lay x).1) l
  have h2 := depth_map (fun x => (pO_lay x).2) l
  constructor
  · simp only [pOs, PyData.canLay0]; exact h1
  · simp only [pOs, PyData.depth]; omega
theorem pO_eq (o : Option Nat) : PyData.eqv (pO o) (pO o) = true := by cases o <;> simp [pO, PyData.eqv]
theorem pOs_eq (l : List (Option Nat)) : PyData.eqv (pOs l) (pOs l) = true := by
  have : ∀ l : List (Option Nat), PyData.eqvAll (l.map pO) (l.map pO) = true := fun l => by
    induction l with
    | nil => simp [PyData.eqvAll]
    | cons a l ih => simp [PyData.eqvAll, pO_eq, ih]
  simp only [pOs, PyData.eqv]
  exact this l
abbrev pT (a b : Nat) : PyData := .tuple [.int (a : Int), .int (b : Int)]
theorem pT_lay (a b : Nat) : (pT a b).canLay0 = true ∧ (pT a b).depth ≤ 2 := by
  simp [PyData.canLay0, PyData.canLayAll0, PyData.depth, PyData.depthAll]
theorem pT_eq (a b : Nat) : PyData.eqv (pT a b) (pT a b) = true := by simp [PyData.eqv, PyData.eqvAll]
def pOb : Option (Bool × Nat) → PyData
  | none => .none
  | some (b, L) => .tuple [.str (obV b), .int (L : Int)]
theorem pOb_lay (o : Option (Bool × Nat)) : (pOb o).canLay0 = true ∧ (pOb o).depth ≤ 2 := by
  cases o with
  | none => simp [pOb, PyData.canLay0, PyData.depth]
  | some q =>
    obtain ⟨b, L⟩ := q
    have : PyData.strOk (obV b) = true := by cases b <;> decide +kernel
    simp [pOb, PyData.canLay0, PyData.canLayAll0, PyData.depth, PyData.depthAll, this]
theorem pOb_eq (o : Option (Bool × Nat)) : PyData.eqv (pOb o) (pOb o) = true := by
  cases o with
  | none => simp [pOb, PyData.eqv]
  | some q => obtain ⟨b, L⟩ := q; simp [pOb, PyData.eqv, PyData.eqvAll]
section
variable {K : PySem.W.Frag} {H : Hp}
theorem dp_o (o : Option Nat) : Dp K H (vO o) (pO o) := by
  cases o with
  | none => exact .non
  | some k => exact .int _
theorem dp_os {a : Addr} {l : List (Option Nat)} (h : H a = some (.lst (l.map vO))) : Dp K H (.ref a) (pOs l) := by
  refine .lst (SqL.of h) ?_
  clear h
  induction l with
  | nil => exact .nil
  | cons o l ih => exact .cons (dp_o o) ih
theorem dp_t {t : Addr} {a b : Nat} (h : H t = some (.tup [nv a, nv b])) : Dp K H (.ref t) (pT a b) := .tup (SqT.of h) (.cons (.int _) (.cons (.int _) .nil))
theorem dp_ob {o : Option (Bool × Nat)} {v : V} (h : ObsV o v H) : Dp K H v (pOb o) := by
  cases o with
  | none => cases h; exact .non
  | some q =>
    obtain ⟨b, L⟩ := q
    obtain ⟨t, rfl, ht⟩ := h
    exact .tup (SqT.of ht) (.cons (.str _) (.cons (.int _) .nil))
end
theorem ObsV.same {o : Option (Bool × Nat)} {v : V} {H H' : Hp} (h : ObsV o v H) (s : Same H H') : ObsV o v H' := by
  cases o with
  | none => exact h
  | some q =>
    obtain ⟨b, L⟩ := q
    obtain ⟨t, e, ht⟩ := h
    exact ⟨t, e, s _ _ ht⟩
end K35
end

section
set_option Elab.async false
set_option linter.all false
set_option maxRecDepth 100000
set_option maxHeartbeats 4000000
/-! W23: law_single. -/
namespace K35
open PySem PySem.Spec PyProof.Rows L2 CM
theorem ws_eq {ws : List (Nat × V)} {n : Nat} {F : Nat → V} (e : ws.map (·.1) = (List.range n).filter fun _ => true) (r : ∀ w ∈ ws, w.2 = F w.1) : ws.map (·.2) = (List.range n).map F := by
  have e2 : (List.range n).filter (fun _ => true) = List.range n := List.filter_eq_self.mpr fun _ _ => rfl
  rw [← e2, ← e, List.map_map]
  exact List.map_congr_left fun w hw => r w hw
theorem root_any {K : PySem.W.Frag} {vs : List V} {H : Hp} {Q : VK} {E : XK} (h : ∃ p n f d, vs = [.ref p, nv d] ∧ MapAt K H p n f ∧ d ∈ degs ∧ ∀ v H', Same H H' → decide (v = V.non) = (obsF (lc n f) (lh n f) d).isSome → Q v H') : sp_root K vs H Q E := by
  obtain ⟨p, n, f, d, e, m, hd, q⟩ := h
  refine ⟨p, n, f, d, e, m, hd, fun no H' s => q _ _ s ?_, fun yes x H' s _ => q _ _ s ?_⟩
  · rw [decide_eq_true rfl]
    cases z : obsF (lc n f) (lh n f) d with
    | none => exact absurd z no
    | some _ => rfl
  · rw [yes, decide_eq_false (fun z => nomatch z)]; rfl
section
variable {P : Program} {w : World} {K : PySem.W.Frag} {mg : Str → Option Value} {base : Heap}
def sp_law_single (K : PySem.W.Frag) : Sp := fun vs H Q _ => ∃ p r t n f π d, vs = [.ref p, .ref r, .ref t, nv d] ∧ MapAt K H p n f ∧ MapAt K H r n (rnF n (pF n π) f) ∧ MapAt K H t n (pF n π) ∧ Pm n π ∧ d ∈ degs ∧ ∀ H', Same H H' → Q (.bl true) H'
theorem ok_law_single (T : Txt K mg base) : Okd P w K mg base 62 (a_law_single K) (sp_law_single K) := by
  refine okd (d := d_law_single) T 80 rfl rfl sc_law_single (fun _ _ _ _ _ _ us hl => match us, hl with | [_, _, _, _], _ => rfl) (fun vs H Q E h => ?_) (fun cdv A outer s H vs Q E hr h => ?_)
  · obtain ⟨p, r, t, n, f, π, d, rfl, _⟩ := h; rfl
  obtain ⟨p, r, t, n, f, π, d, rfl, m, m', mb, pm, hd, q⟩ := h
  have n2 := m.n2
  have pf := m.pi
  have pg := m'.pi
  have R := rnF_ren pm pf
  have full : (arr n (pF n π)).length = n := by
    rw [arr_len_eq, List.countP_eq_length.mpr fun x hx => ?_, List.length_range]
    unfold pF
    rw [if_pos (List.mem_range.mp hx)]; rfl
  have hp := cys_ren pm pf pg R
  have hq := chs_ren pm pf pg R
  have e0 : eqF n (rnF n (pF n π) f) (rnF n (pF n π) f) = true := eqF_refl _ _
  generalize hg : rnF n (pF n π) f = g at *
  have d0 := degs_le hd
  refine ⟨_, (pss_cons (ps_if (PW.pt (pw_or (pt_cmpR (ne_oD (ok_Shape_eq T) (hr.mono (by decide)) T.ne_Shape T.m_Shape_eq T.mro_Shape) (pe_cD (ok_shape_of T) (hr.mono (by decide)) T.g_shape_of (pa_cons (pv 0) pa_nil)) (pe_cD (ok_shape_of T) (hr.mono (by decide)) T.g_shape_of (pa_cons (pv 1) pa_nil)) (nomark _)) (pw_or (pt_cmpR (op_neD hr.units) (pe_cD (ok_repetition T) (hr.mono (by decide)) T.g_repetition (pa_cons (pv 0) pa_nil)) (pe_cD (ok_repetition T) (hr.mono (by decide)) T.g_repetition (pa_cons (pv 1) pa_nil)) (nomark _)) (pw_or1 (pt_not (pt_val (pe_cD (ok_are_alike T) (hr.mono (by decide)) T.g_are_alike (pa_cons (pv 0) (pa_cons (pv 1) pa_nil))))))))) (pss_one (ps_ret pe_bl)) pss_nil)
      (pss_cons (ps_if (pt_cmpR (op_neD hr.units) (pe_lc (own := [("_law_number", 4)]) rfl sc_law_single.nd (pi_range1 rfl T.f_range (pa_cons (pe_prD (ok_Map_size T) (hr.mono (by decide)) T.cl_Map T.p_Map_size (pv 0)) pa_nil)) (blkOk_by (N := N_law_single) (sc := defScope s_law_single) (by decide +kernel)) (fun _ _ _ _ _ => (pg_name (i := 4) sc_law_single.nd rfl (Or.inl rfl))) (fun _ _ _ _ _ => pts_nil) (fun _ _ _ _ _ => (pe_cD (ok_fate T) (hr.mono (by decide)) T.g_fate (pa_cons (pv 0) (pa_cons (pv 4) pa_nil))))) (pe_lc (own := [("_law_number", 4)]) rfl sc_law_single.nd (pi_range1 rfl T.f_range (pa_cons (pe_prD (ok_Map_size T) (hr.mono (by decide)) T.cl_Map T.p_Map_size (pv 0)) pa_nil)) (blkOk_by (N := N_law_single) (sc := defScope s_law_single) (by decide +kernel)) (fun _ _ _ _ _ => (pg_name (i := 4) sc_law_single.nd rfl (Or.inl rfl))) (fun _ _ _ _ _ => pts_nil) (fun _ _ _ _ _ => (pe_cD (ok_fate T) (hr.mono (by decide)) T.g_fate (pa_cons (pv 1) (pa_cons (pe_subD (ok_Map_getitem T) (hr.mono (by decide)) T.m_Map_getitem (T.c.ex 9) (pv 2) (pv 4)) pa_nil))))) (nomark _)) (pss_one (ps_ret pe_bl)) pss_nil)
      (pss_cons (ps_if (PW.pt (pw_or (pt_cmpR (op_neD hr.units) (pe_cD (ok_obstacle T) (hr.mono (by decide)) T.g_obstacle (pa_cons (pv 0) (pa_cons (pv 3) pa_nil))) (pe_cD (ok_obstacle T) (hr.mono (by decide)) T.g_obstacle (pa_cons (pv 1) (pa_cons (pv 3) pa_nil))) (nomark _)) (pw_or1 (pt_cmpR op_ne (pe_cD (ok_count_roots T) (hr.mono (by decide)) T.g_count_roots (pa_cons (pv 0) (pa_cons (pv 3) pa_nil))) (pe_cD (ok_count_roots T) (hr.mono (by decide)) T.g_count_roots (pa_cons (pv 1) (pa_cons (pv 3) pa_nil))) (nomark _))))) (pss_one (ps_ret pe_bl)) pss_nil)
      (pss_cons (ps_if (PW.pt (pw_or (pt_cmpR op_ne (pe_cmp (pc_isN (pe_cD (ok_root T) (hr.mono (by decide)) T.g_root (pa_cons (pv 0) (pa_cons (pv 3) pa_nil)))) rfl) (pe_cmp (pc_isN (pe_cD (ok_root T) (hr.mono (by decide)) T.g_root (pa_cons (pv 1) (pa_cons (pv 3) pa_nil)))) rfl) (nomark _)) (pw_or1 (pt_not (pt_val (pe_cD (ok_is_renaming T) (hr.mono (by decide)) T.g_is_renaming (pa_cons (pv 0) (pa_cons (pv 1) (pa_cons (pv 2) pa_nil))))))))) (pss_one (ps_ret pe_bl)) pss_nil)
      (pss_cons (ps_if (PW.pt (pw_or (pt_not (pt_val (pe_cD (ok_law_same T) (hr.mono (by decide)) T.g_law_same (pa_cons (pe_mD (ok_Map_power T) (hr.mono (by decide)) T.cl_Map T.m_Map_power (pv 0) (pa_cons (pv 3) pa_nil)) (pa_cons (pe_mD (ok_Map_power T) (hr.mono (by decide)) T.cl_Map T.m_Map_power (pv 1) (pa_cons (pv 3) pa_nil)) (pa_cons (pv 2) pa_nil)))))) (pw_or1 (pt_not (pt_val (pe_cD (ok_law_same T) (hr.mono (by decide)) T.g_law_same (pa_cons (pe_un (un_oD (ok_Map_invert T) (hr.mono (by decide)) T.m_Map_invert) (pv 0)) (pa_cons (pe_un (un_oD (ok_Map_invert T) (hr.mono (by decide)) T.m_Map_invert) (pv 1)) (pa_cons (pv 2) pa_nil))))))))) (pss_one (ps_ret pe_bl)) pss_nil)
      (pss_one (ps_ret (pe_and (pe_cmpR op_eq (pe_cD (ok_count_commuting T) (hr.mono (by decide)) T.g_count_commuting (pa_cons (pv 0) pa_nil)) (pe_cD (ok_count_commuting T) (hr.mono (by decide)) T.g_count_commuting (pa_cons (pv 1) pa_nil)) (nomark _)) (pe_one (pe_cmpR op_eq (pe_cD (ok_count_extensions T) (hr.mono (by decide)) T.g_count_extensions (pa_cons (pv 0) (pa_cons pe_int pa_nil))) (pe_cD (ok_count_extensions T) (hr.mono (by decide)) T.g_count_extensions (pa_cons (pv 1) (pa_cons pe_int pa_nil))) (nomark _))))))))))), ?_⟩
  refine ⟨_, rfl, p, n, f, rfl, m, fun x1 H1 hx1 s1 sh1 => ⟨_, rfl, r, n, g, rfl, m'.same s1, fun x2 H2 hx2 s2 sh2 => ?_⟩⟩
  have sh1' := sh1.same s2
  obtain ⟨_, _, _, o1, _⟩ := sh1'.ob
  obtain ⟨_, _, _, o2, _⟩ := sh2.ob
  refine ⟨x1, x2, _, _, _, _, rfl, rfl, o1, o2, x1, x2, _, _, _, _, rfl, sh1', sh2, true, by rw [shEq_perm hp.symm hq.symm], false, rfl, iteF ?_⟩
  have s12 := s1.trans s2
  refine ⟨_, rfl, p, n, f, rfl, m.same s12, fun t1 H3 s3 ht1 => ⟨_, rfl, r, n, g, rfl, m'.same (s12.trans s3), fun t2 H4 s4 ht2 => ?_⟩⟩
  rw [maxL_perm hq, lcmL_perm hp] at ht2
  refine ⟨_, _, dp_t (s4 _ _ ht1), dp_t ht2, shaped_of (pT_lay _ _), shaped_of (pT_lay _ _), _, rfl, ?_⟩
  rw [pT_eq]
  refine iteF ?_
  have s14 := s12.trans (s3.trans s4)
  refine ⟨_, rfl, _, rfl, p, r, n, f, g, rfl, m.same s14, m'.same s14, fun H5 s5 => ⟨true, ?_, iteF ?_⟩⟩
  · exact congrArg V.bl (shEq_perm hp.symm hq.symm)
  have s15 := s14.trans s5
  obtain ⟨dx, df, h1, h2⟩ := (m.same s15).ob
  refine ⟨_, rfl, p, dx, _, rfl, h1, p, n, f, rfl, m.same s15, n, rfl, by omega, by omega, ?_⟩
  rw [Int.toNat_natCast]
  refine lc_mk walk_range (fun _ _ => trivial) (bd_fn (by intros; rfl)) (fun j => true) (fun j v H => v = vO (fateO n f j)) (by omega) (fun _ _ _ _ _ h => h) (fun _ _ _ _ _ _ _ h => h) (fun j H' hj s => Et.yes) (fun j H' hj _ s Rk hR => ?_) fun D6 H6 ws6 s6 hD6 h6 e6 r6 => ?_
  · have ej : V.int (0 + (j : Int)) = nv j := by show V.int _ = V.int _; rw [Int.zero_add]
    try dsimp only
    rw [ej]
    exact ⟨_, rfl, _, rfl, p, n, f, j, rfl, m.same (s15.trans s), hj, fun H7 s7 => hR _ _ s7 rfl⟩
  rw [ws_eq (F := fun j => vO (fateO n f j)) e6 r6] at h6
  have s16 := s15.trans s6
  obtain ⟨dx2, df2, h12, h22⟩ := (m.same s16).ob
  refine ⟨_, rfl, p, dx2, _, rfl, h12, p, n, f, rfl, m.same s16, n, rfl, by omega, by omega, ?_⟩
  rw [Int.toNat_natCast]
  refine lc_mk walk_range (fun _ _ => trivial) (bd_fn (by intros; rfl)) (fun j => true) (fun j v H => v = vO (fateO n f j)) (by omega) (fun _ _ _ _ _ h => h) (fun _ _ _ _ _ _ _ h => h) (fun j H' hj s => Et.yes) (fun j H' hj _ s Rk hR => ?_) fun D7 H7 ws7 s7 hD7 h7 e7 r7 => ?_
  · have ej : V.int (0 + (j : Int)) = nv j := by show V.int _ = V.int _; rw [Int.zero_add]
    try dsimp only
    rw [ej]
    have sj := s16.trans s
    obtain ⟨dx3, df3, h13, h23⟩ := (mb.same sj).ob
    refine ⟨_, rfl, _, rfl, _, rfl, t, dx3, _, rfl, h13, t, n, pF n π, j, π j, rfl, mb.same sj, by unfold pF; rw [if_pos hj], r, n, g, π j, rfl, m'.same sj, pm.lt hj, fun H8 s8 => hR _ _ s8 ?_⟩
    rw [fateO_ren pm pf R hj]; rfl
  rw [ws_eq (F := fun j => vO (fateO n f j)) e7 r7] at h7
  have e8 : (List.range n).map (fun j => vO (fateO n f j)) = ((List.range n).map fun j => fateO n f j).map vO := by rw [List.map_map]; rfl
  rw [e8] at h6 h7
  refine ⟨_, _, dp_os (s7 _ _ h6), dp_os h7, shaped_of (pOs_lay _), shaped_of (pOs_lay _), _, rfl, ?_⟩
  rw [pOs_eq]
  refine iteF ?_
  have s17 := s16.trans s7
  -- obstacles, counts
  refine ⟨_, rfl, _, rfl, p, n, f, d, rfl, m.same s17, hd, fun v8 H8 s8 ob8 => ⟨_, rfl, _, rfl, r, n, g, d, rfl, m'.same (s17.trans s8), hd, fun v9 H9 s9 ob9 => ?_⟩⟩
  rw [obsF_perm hp hq] at ob9
  refine ⟨_, _, dp_ob (ob8.same s9), dp_ob ob9, shaped_of (pOb_lay _), shaped_of (pOb_lay _), _, rfl, ?_⟩
  rw [pOb_eq]
  refine iteF ?_
  have s19 := s17.trans (s8.trans s9)
  refine ⟨_, rfl, _, rfl, p, n, f, d, rfl, m.same s19, hd, fun H10 s10 => ⟨_, rfl, _, rfl, r, n, g, d, rfl, m'.same (s19.trans s10), hd, fun H11 s11 => ⟨rfl, false, ?_, iteF ?_⟩⟩⟩
  · rw [crt_perm hp hq]
    show V.bl (!decide (_ = _)) = _
    rw [decide_eq_true rfl]; rfl
  have s21 := s19.trans (s10.trans s11)
  refine ⟨_, rfl, _, rfl, ?_⟩
  unfold tNil
  dsimp only
  refine root_any ⟨p, n, f, d, rfl, m.same s21, hd, fun v1 H12 s12' e1 => ?_⟩
  have s22 := s21.trans s12'
  refine ⟨_, rfl, _, rfl, ?_⟩
  dsimp only
  refine root_any ⟨r, n, g, d, rfl, m'.same s22, hd, fun v2 H13 s13' e2 => ?_⟩
  have s23 := s22.trans s13'
  rw [obsF_perm hp hq] at e2
  refine ⟨rfl, false, ?_, iteF ?_⟩
  · show V.bl (!decide (V.bl (decide (v1 = V.non)) = V.bl (decide (v2 = V.non)))) = _
    rw [e1, e2, decide_eq_true rfl]; rfl
  refine ⟨_, rfl, _, rfl, _, rfl, p, r, t, n, f, g, pF n π, rfl, m.same s23, m'.same s23, mb.same s23, full, fun H14 s14' => ⟨true, ?_, iteF ?_⟩⟩
  · rw [hg, eqF_refl]
  have s24 := s23.trans s14'
  -- powers, inverses
  obtain ⟨dxa, dfa, ha1, _⟩ := (m.same s24).ob
  refine ⟨_, rfl, p, dxa, _, rfl, ha1, fM_no _ _ (by decide +kernel) (by decide +kernel), _, rfl, p, n, d, f, rfl, m.same s24, by omega, fun y1 H15 hy1 s15' k1 => ?_⟩
  have s25 := s24.trans s15'
  obtain ⟨dxb, dfb, hb1, _⟩ := (m'.same s25).ob
  refine ⟨_, rfl, r, dxb, _, rfl, hb1, fM_no _ _ (by decide +kernel) (by decide +kernel), _, rfl, r, n, d, g, rfl, m'.same s25, by omega, fun y2 H16 hy2 s16' k2 => ?_⟩
  have s26 := s25.trans s16'
  have k1' := k1.same s16'
  refine ⟨_, rfl, y1, y2, t, n, _, _, pF n π, rfl, k1', k2, mb.same s26, fun H17 s17' => ⟨true, ?_, iteF ?_⟩⟩
  · rw [rnF_eq pm k1'.pi k2.pi (Ren.pow pf R d), eqF_refl]
  have s27 := s26.trans s17'
  obtain ⟨dxc, dfc, hc1, _⟩ := (m.same s27).ob
  refine ⟨_, rfl, p, dxc, _, rfl, hc1, p, n, f, rfl, m.same s27, fun z1 H18 hz1 s18' j1 => ?_⟩
  have s28 := s27.trans s18'
  obtain ⟨dxd, dfd, hd1, _⟩ := (m'.same s28).ob
  refine ⟨_, rfl, r, dxd, _, rfl, hd1, r, n, g, rfl, m'.same s28, fun z2 H19 hz2 s19' j2 => ?_⟩
  have s29 := s28.trans s19'
  have j1' := j1.same s19'
  refine ⟨_, rfl, z1, z2, t, n, _, _, pF n π, rfl, j1', j2, mb.same s29, fun H20 s20' => ⟨true, ?_, iteF ?_⟩⟩
  · rw [rnF_eq pm j1'.pi j2.pi (Ren.inv pm pf pg R), eqF_refl]
  have s30 := s29.trans s20'
  refine ⟨_, rfl, p, n, f, rfl, m.same s30, fun H21 s21' => ⟨_, rfl, r, n, g, rfl, m'.same (s30.trans s21'), fun H22 s22' => ⟨rfl, true, ?_, iteT ?_⟩⟩⟩
  · rw [csym_perm hp hq, decide_eq_true rfl]
  have s32 := s30.trans (s21'.trans s22')
  refine ⟨_, rfl, p, n, f, rfl, m.same s32, _, rfl, r, n, g, rfl, m'.same s32, rfl, ?_⟩
  rw [arr_len_ren pm R]
  show Q (V.bl (decide (nv (cext n (arr n f).length) = nv (cext n (arr n f).length)))) H22
  rw [decide_eq_true rfl]
  exact q H22 s32
end
end K35
end

section
set_option Elab.async false
set_option linter.all false
set_option maxRecDepth 100000
set_option maxHeartbeats 4000000
/-! W24: law_steps. -/
namespace K35
open PySem PySem.Spec PyProof.Rows L2 CM
theorem stL_short {n : Nat} {f g : PF} (hf : PI n f) (hg : PI n g) : (stL n f g).length ≤ n + n := by
  unfold stL
  rw [List.length_append]
  have h1 := flat_len (prts n f g)
  have h2 := pl_sum hf hg
  have h3 : (forg n f g).length = (List.range n).countP fun x => (f x).isSome && (g x).isNone := forg_len hf hg
  have h4 := List.countP_le_length (p := fun x => (f x).isSome && (g x).isNone) (l := List.range n)
  rw [List.length_range] at h4
  unfold pl at h2
  omega
theorem stv_ren {n : Nat} {π : Nat → Nat} {s : Stp} (h : s.ok n) : ∃ hd xs, stv s = .str hd :: li xs ∧ stv (s.ren π) = .str hd :: li (xs.map π) ∧ (∀ x ∈ xs, x < n) ∧ xs ≠ [] ∧ xs.length ≤ 2 := by
  cases s with
  | sw a b =>
    obtain ⟨h1, h2, _⟩ := h
    refine ⟨"swap", [a, b], rfl, rfl, fun x hx => ?_, by simp, Nat.le_refl _⟩
    rcases List.mem_cons.mp hx with rfl | hx
    · exact h1
    · have : x = b := by simpa using hx
      rw [this]; exact h2
  | fg a =>
    refine ⟨"forget", [a], rfl, rfl, fun x hx => ?_, by simp, by simp⟩
    have : x = a := by simpa using hx
    rw [this]; exact h
theorem ren_rows {π : Nat → Nat} (ss : List Stp) : (List.range ss.length).map (fun j => ((ss[j]?).getD (.fg 0)).ren π) = ss.map (Stp.ren π) := by
  refine List.ext_getElem (by rw [List.length_map, List.length_map, List.length_range]) fun i h1 h2 => ?_
  rw [List.length_map] at h2
  rw [List.getElem_map, List.getElem_map, List.getElem_range, List.getElem?_eq_getElem h2]; rfl
section
variable {P : Program} {w : World} {K : PySem.W.Frag} {mg : Str → Option Value} {base : Heap}
def sp_law_steps (K : PySem.W.Frag) : Sp := fun vs H Q _ => ∃ p r t a x y n f g f' g' π, vs = [.ref p, .ref r, .ref t, .ref a] ∧ MapAt K H p n f ∧ MapAt K H r n g ∧ MapAt K H t n (pF n π) ∧ Pm n π ∧ H a = some (.lst [.ref x, .ref y]) ∧ MapAt K H x n f' ∧ MapAt K H y n g' ∧ Ren n π f f' ∧ Ren n π g g' ∧ ∀ H', Same H H' → Q (.bl true) H'
theorem ok_law_steps (T : Txt K mg base) : Okd P w K mg base 10 (a_law_steps K) (sp_law_steps K) := by
  refine okd (d := d_law_steps) T 81 rfl rfl sc_law_steps (fun _ _ _ _ _ _ us hl => match us, hl with | [_, _, _, _], _ => rfl) (fun vs H Q E h => ?_) (fun cdv A outer s H vs Q E hr h => ?_)
  · obtain ⟨p, r, t, a, x, y, n, f, g, f', g', π, rfl, _⟩ := h; rfl
  obtain ⟨p, r, t, a, x, y, n, f, g, f', g', π, rfl, m, m', mb, pm, ha, mx, my, R, R', q⟩ := h
  have n2 := m.n2
  have e0 : atI [V.ref x, V.ref y] 0 = some (.ref x) := atI_nat (j := 0) rfl
  have e1 : atI [V.ref x, V.ref y] 1 = some (.ref y) := atI_nat (j := 1) rfl
  have lk := lkB_ren pm m.pi mx.pi m'.pi my.pi R R'
  have dr := dist_ren pm m.pi mx.pi m'.pi my.pi R R'
  have cr := csh_ren pm m.pi mx.pi m'.pi my.pi R R'
  have nr := nsU_ren pm m.pi mx.pi m'.pi my.pi R R'
  have fr := forg_ren pm m.pi mx.pi m'.pi my.pi R R'
  refine ⟨_, (pss_cons (ps_if (pt_cmpR op_ne (pe_cD (ok_distance T) (hr.mono (by decide)) T.g_distance (pa_cons (pv 0) (pa_cons (pv 1) pa_nil))) (pe_cD (ok_distance T) (hr.mono (by decide)) T.g_distance (pa_cons (pe_ix ix_list (pv 3) pe_int (fun _ _ => rfl)) (pa_cons (pe_ix ix_list (pv 3) pe_int (fun _ _ => rfl)) pa_nil))) (nomark _)) (pss_one (ps_ret pe_bl)) pss_nil)
      (pss_cons (ps_if (pt_cmpR op_ne (pe_cD (ok_count_shortest T) (hr.mono (by decide)) T.g_count_shortest (pa_cons (pv 0) (pa_cons (pv 1) pa_nil))) (pe_cD (ok_count_shortest T) (hr.mono (by decide)) T.g_count_shortest (pa_cons (pe_ix ix_list (pv 3) pe_int (fun _ _ => rfl)) (pa_cons (pe_ix ix_list (pv 3) pe_int (fun _ _ => rfl)) pa_nil))) (nomark _)) (pss_one (ps_ret pe_bl)) pss_nil)
      (pss_cons (ps_if (pt_cmpR op_ne (pe_callB call_len_seq rfl T.f_len (by decide +kernel) (pa_cons (pe_cD (ok_next_steps T) (hr.mono (by decide)) T.g_next_steps (pa_cons (pv 0) (pa_cons (pv 1) pa_nil))) pa_nil)) (pe_callB call_len_seq rfl T.f_len (by decide +kernel) (pa_cons (pe_cD (ok_next_steps T) (hr.mono (by decide)) T.g_next_steps (pa_cons (pe_ix ix_list (pv 3) pe_int (fun _ _ => rfl)) (pa_cons (pe_ix ix_list (pv 3) pe_int (fun _ _ => rfl)) pa_nil))) pa_nil)) (nomark _)) (pss_one (ps_ret pe_bl)) pss_nil)
      (pss_cons (ps_set (i := 4) sc_law_steps.nd rfl (Or.inl rfl) (pe_cD (ok_steps T) (hr.mono (by decide)) T.g_steps (pa_cons (pv 0) (pa_cons (pv 1) pa_nil))))
      (pss_cons (ps_if (pt_cmp (pc_isN (pv 4)) rfl) (pss_one (ps_ret pe_bl)) pss_nil)
      (pss_cons (ps_setLc (i := 5) (own := [("_law_step", 6)]) rfl sc_law_steps.nd rfl rfl (sw_true rfl rfl rfl (by decide +kernel)) (pi_list (pv 4)) (blkOk_by (N := N_law_steps) (sc := defScope s_law_steps) (by decide +kernel)) (fun _ _ _ _ _ => (pg_name (i := 6) sc_law_steps.nd rfl (Or.inl rfl))) (fun _ _ _ _ _ => pts_nil) (fun _ _ _ _ _ => (pe_op (opK_catT (K := K) rfl) (pe_tup (pa_cons (pe_ix (ixK_tup (K := K) rfl) (pv 6) pe_int (fun _ _ => rfl)) pa_nil)) (pe_tupleOfK (K := K) rfl rfl T.f_tuple (pe_lc (own := [("_law_number", 7)]) rfl sc_law_steps.nd (piK_tup (K := K) rfl (pe_slice (slK_tup (K := K) rfl) (pv 6) (po_some pe_int) po_none)) (blkOk_by (by rfl)) (fun _ _ _ _ _ => (pg_name (i := 7) sc_law_steps.nd rfl (Or.inl rfl))) (fun _ _ _ _ _ => pts_nil) (fun _ _ _ _ _ => (pe_subD (ok_Map_getitem T) (hr.mono (by decide)) T.m_Map_getitem (T.c.ex 9) (pv 2) (pv 7))))))))
      (pss_one (ps_ret (pe_cmpR (cmp_oD (ok_Map_eq T) (hr.mono (by decide)) T.m_Map_eq) (pe_cD (ok_applied T) (hr.mono (by decide)) T.g_applied (pa_cons (pe_ix ix_list (pv 3) pe_int (fun _ _ => rfl)) (pa_cons (pv 5) pa_nil))) (pe_ix ix_list (pv 3) pe_int (fun _ _ => rfl)) (nomark _)))))))))), ?_⟩
  cases hl : lkB n f g with
  | false =>
    rw [hl] at lk
    refine ⟨_, rfl, _, rfl, p, r, n, f, g, rfl, m, m', fun _ H1 s1 => ?_, fun h => absurd (hl.symm.trans h) (by decide)⟩
    refine ⟨_, rfl, a, _, 0, _, rfl, rfl, SqL.of (s1 _ _ ha), e0, _, rfl, a, _, 1, _, rfl, rfl, SqL.of (s1 _ _ ha), e1, x, y, n, f', g', rfl, mx.same s1, my.same s1, fun _ H2 s2 => ⟨rfl, false, rfl, iteF ?_⟩, fun h => absurd (lk.symm.trans h) (by decide)⟩
    have s2 := s1.trans s2
    refine ⟨_, rfl, _, rfl, p, r, n, f, g, rfl, m.same s2, m'.same s2, fun _ H3 s3 => ?_, fun h => absurd (hl.symm.trans h) (by decide)⟩
    have s3 := s2.trans s3
    refine ⟨_, rfl, a, _, 0, _, rfl, rfl, SqL.of (s3 _ _ ha), e0, _, rfl, a, _, 1, _, rfl, rfl, SqL.of (s3 _ _ ha), e1, x, y, n, f', g', rfl, mx.same s3, my.same s3, fun _ H4 s4 => ⟨rfl, false, rfl, iteF ?_⟩, fun h => absurd (lk.symm.trans h) (by decide)⟩
    have s4 := s3.trans s4
    refine ⟨_, rfl, _, rfl, p, r, n, f, g, rfl, m.same s4, m'.same s4, fun _ b H5 s5 hb => ⟨b, _, rfl, .inl (SqL.of hb), ?_⟩, fun h => absurd (hl.symm.trans h) (by decide)⟩
    have s5 := s4.trans s5
    refine ⟨_, rfl, a, _, 0, _, rfl, rfl, SqL.of (s5 _ _ ha), e0, _, rfl, a, _, 1, _, rfl, rfl, SqL.of (s5 _ _ ha), e1, x, y, n, f', g', rfl, mx.same s5, my.same s5, fun _ b' H6 s6 hb' => ⟨b', _, rfl, .inl (SqL.of hb'), rfl, false, rfl, iteF ?_⟩, fun h => absurd (lk.symm.trans h) (by decide)⟩
    have s6 := s5.trans s6
    refine ⟨_, rfl, _, rfl, p, r, n, f, g, rfl, m.same s6, m'.same s6, fun _ H7 s7 => ?_, fun h => absurd (hl.symm.trans h) (by decide)⟩
    exact ⟨_, rfl, _, rfl, iteT (q H7 (s6.trans s7))⟩
  | true =>
    rw [hl] at lk
    have nn : ∀ k : Nat, V.bl (!decide (nv k = nv k)) = V.bl false := fun k => by rw [decide_eq_true rfl]; rfl
    refine ⟨_, rfl, _, rfl, p, r, n, f, g, rfl, m, m', fun h => absurd (hl.symm.trans h) (by decide), fun _ H1 s1 => ?_⟩
    refine ⟨_, rfl, a, _, 0, _, rfl, rfl, SqL.of (s1 _ _ ha), e0, _, rfl, a, _, 1, _, rfl, rfl, SqL.of (s1 _ _ ha), e1, x, y, n, f', g', rfl, mx.same s1, my.same s1, fun h => absurd (lk.symm.trans h) (by decide), fun _ H2 s2 => ⟨rfl, false, by rw [dr]; exact nn _, iteF ?_⟩⟩
    have s2 := s1.trans s2
    refine ⟨_, rfl, _, rfl, p, r, n, f, g, rfl, m.same s2, m'.same s2, fun h => absurd (hl.symm.trans h) (by decide), fun _ H3 s3 => ?_⟩
    have s3 := s2.trans s3
    refine ⟨_, rfl, a, _, 0, _, rfl, rfl, SqL.of (s3 _ _ ha), e0, _, rfl, a, _, 1, _, rfl, rfl, SqL.of (s3 _ _ ha), e1, x, y, n, f', g', rfl, mx.same s3, my.same s3, fun h => absurd (lk.symm.trans h) (by decide), fun _ H4 s4 => ⟨rfl, false, by rw [cr]; exact nn _, iteF ?_⟩⟩
    have s4 := s3.trans s4
    refine ⟨_, rfl, _, rfl, p, r, n, f, g, rfl, m.same s4, m'.same s4, fun h => absurd (hl.symm.trans h) (by decide), fun _ b H5 xs s5 hb lx => ⟨b, _, rfl, .inl (SqL.of hb), ?_⟩⟩
    have s5 := s4.trans s5
    refine ⟨_, rfl, a, _, 0, _, rfl, rfl, SqL.of (s5 _ _ ha), e0, _, rfl, a, _, 1, _, rfl, rfl, SqL.of (s5 _ _ ha), e1, x, y, n, f', g', rfl, mx.same s5, my.same s5, fun h => absurd (lk.symm.trans h) (by decide), fun _ b' H6 xs' s6 hb' lx' => ⟨b', _, rfl, .inl (SqL.of hb'), rfl, false, ?_, iteF ?_⟩⟩
    · rw [lx, lx', nr, fr]; exact nn _
    have s6 := s5.trans s6
    refine ⟨_, rfl, _, rfl, p, r, n, f, g, rfl, m.same s6, m'.same s6, fun h => absurd (hl.symm.trans h) (by decide), fun _ c H7 s7 st => ?_⟩
    have s7 := s6.trans s7
    refine ⟨_, rfl, _, rfl, iteF ?_⟩
    obtain ⟨ws, w1, w2, w3⟩ := st
    have ok := stL_ok m.pi m'.pi
    have lw : ws.length ≤ 1000 := by
      have := congrArg List.length w1
      rw [List.length_map] at this
      have h := stL_short m.pi m'.pi
      omega
    refine ⟨_, rfl, c, rfl, ⟨_, SqL.of w2⟩, ?_⟩
    refine lc_mk (walk_list (K := K) (a := c) (xs := ws.map (·.2))) (fun H' s => SqL.of (s _ _ w2)) (bd_one (by intros; rfl)) (fun j => true) (fun j v H => ∃ s, (stL n f g)[j]? = some s ∧ StpV (s.ren π) v H) (by rw [List.length_map]; omega)
      (fun i v H H' e ⟨x, h1, h2⟩ => ⟨x, h1, h2.mono e⟩) (fun i v H D xs ys hD ⟨x, h1, h2⟩ => ⟨x, h1, h2.st hD⟩) (fun j H' hj s => Et.yes) (fun j H' hj _ s Rk hR => ?_) fun D H8 ws8 s8 hD h8 e8 r8 => ?_
    · have hj' : j < ws.length := by rw [List.length_map] at hj; exact hj
      have ew : (ws.map (·.2)).getD j .non = ws[j].2 := by rw [List.getD_eq_getElem?_getD, List.getElem?_map, List.getElem?_eq_getElem hj']; rfl
      have es : (stL n f g)[j]? = some ws[j].1 := by rw [← w1, List.getElem?_map, List.getElem?_eq_getElem hj']; rfl
      obtain ⟨T0, eT, hT⟩ := w3 _ (List.getElem_mem hj')
      have oks := ok _ (List.mem_of_getElem? es)
      rw [ew, eT]
      have hT' := s _ _ hT
      generalize ws[j].1 = st at *
      have sj := s7.trans s
      obtain ⟨hd, xs, e2, e3, hx, ne, lx⟩ := stv_ren (π := π) oks
      rw [e2] at hT'
      refine ⟨_, rfl, T0, _, 0, _, rfl, rfl, SqT.of hT', atI_nat (j := 0) rfl, by show 1 ≤ sizeLine; decide, fun u hu => ?_⟩
      have su := same_new (o := .tup [V.str hd]) (Same.refl H') hu
      have ec : cutV (V.str hd :: li xs) (some 1) none = li xs := cut_from _ 1
      have hu1 : upd H' u (.tup [V.str hd]) u = some (.tup [V.str hd]) := upd_same
      generalize upd H' u (.tup [V.str hd]) = H9 at su hu1
      refine ⟨_, rfl, 1, rfl, T0, _, rfl, SqT.of (su _ _ hT'), ?_, fun c1 hc1 => ?_⟩
      · rintro ⟨z, _⟩
        have l1 : (V.str hd :: li xs).length = xs.length + 1 := by rw [List.length_cons, li_length]
        rw [l1] at z
        have := HT.sIx_nat (n := xs.length + 1) (d := 0) (k := 1)
        rw [show ((1 : Nat) : Int) = 1 from rfl, z] at this
        omega
      rw [ec]
      have sc := same_new (o := .tup (li xs)) su hc1
      have hc2 : upd H9 c1 (.tup (li xs)) c1 = some (.tup (li xs)) := upd_same
      have hu2 := same_new (o := .tup (li xs)) (Same.refl H9) hc1 _ _ hu1
      generalize upd H9 c1 (.tup (li xs)) = H10 at sc hc2 hu2
      refine ⟨c1, rfl, ⟨_, SqT.of hc2⟩, ?_⟩
      have wt : Walk (Itt K c1) xs.length (fun H => SqT K H c1 (li xs)) (YAt (li xs)) := by
        have := walk_tup (K := K) (a := c1) (xs := li xs)
        rw [li_length] at this
        exact this
      refine lc_li wt (fun H' s => SqT.of (s _ _ hc2)) (by intros; rfl) (fun x => some (nv (π x))) (by omega) (fun x H' hm s => Et.yes) (fun x v H' hm e s Q' q' => ?_) fun D H11 s11 hD h11 => ?_
      · cases e
        have sk := (sj.trans sc).trans s
        obtain ⟨dx3, df3, h13, h23⟩ := (mb.same sk).ob
        exact ⟨_, rfl, _, rfl, t, dx3, _, rfl, h13, t, n, pF n π, x, π x, rfl, mb.same sk, by unfold pF; rw [if_pos (hx x hm)], q'⟩
      have em : xs.filterMap (fun x => some (nv (π x))) = li (xs.map π) := by
        rw [List.filterMap_eq_map', li, List.map_map]; rfl
      rw [em] at h11
      refine .inl ⟨D, _, rfl, SqL.of h11, fun z hz => ?_⟩
      have sz := same_new (o := .tup (li (xs.map π))) s11 hz
      refine ⟨u, z, _, _, rfl, rfl, SqT.of (sz _ _ hu2), SqT.of upd_same, by simp, ?_, fun e => ?_, fun _ y' hy' => ?_⟩
      · rw [li_length, List.length_map]
        show 1 + xs.length ≤ sizeLine
        have : 100 < sizeLine := by decide
        omega
      · exfalso
        have := congrArg List.length e
        rw [li_length, List.length_map] at this
        exact ne (List.eq_nil_of_length_eq_zero this)
      · exact hR _ _ (sc.trans (same_new sz hy')) ⟨st, es, y', rfl, by rw [upd_same, e3]; rfl⟩
    have s8' := s7.trans s8
    have rr := ren_rows (π := π) (stL n f g)
    have ll : (ws.map (·.2)).length = (stL n f g).length := by rw [List.length_map, ← w1, List.length_map]
    have st8 : StepsAt H8 D ((stL n f g).map (Stp.ren π)) := by
      refine ⟨ws8.map fun w => ((((stL n f g)[w.1]?).getD (.fg 0)).ren π, w.2), ?_, ?_, fun w hw => ?_⟩
      · have h1 : (List.range (ws.map (·.2)).length).filter (fun _ => true) = List.range (ws.map (·.2)).length := List.filter_eq_self.mpr fun _ _ => rfl
        rw [h1, ll] at e8
        rw [← rr, ← e8, List.map_map, List.map_map]; rfl
      · rw [h8, List.map_map]; rfl
      · obtain ⟨w0, hw0, rfl⟩ := List.mem_map.mp hw
        obtain ⟨s, es, hs⟩ := r8 _ hw0
        rw [es]; exact hs
    have ok8 : ∀ s ∈ (stL n f g).map (Stp.ren π), s.ok n := fun s hs => by
      obtain ⟨s0, h0, rfl⟩ := List.mem_map.mp hs
      exact ok_ren pm (ok s0 h0)
    refine ⟨_, rfl, a, _, 0, _, rfl, rfl, SqL.of (s8' _ _ ha), e0, _, rfl, x, D, n, f', _, rfl, mx.same s8', st8, ok8, fun z H9 hz s9 k9 => ?_⟩
    have s9' := s8'.trans s9
    have my9 := my.same s9'
    obtain ⟨_, _, z1, _⟩ := k9.ob
    obtain ⟨_, _, z2, _⟩ := my9.ob
    refine ⟨_, rfl, a, _, 1, _, rfl, rfl, SqL.of (s9' _ _ ha), e1, z, y, _, _, _, _, rfl, rfl, z1, z2, z, y, n, _, g', rfl, k9, my9, ?_⟩
    have ra := appL_ren pm m.pi R ok
    rw [stL_app m.pi m'.pi hl] at ra
    rw [Ren.uniq pm k9.pi my9.pi ra R', eqF_refl]
    exact q H9 s9'
end
end K35
end

section
set_option Elab.async false
set_option linter.all false
set_option maxRecDepth 100000
set_option maxHeartbeats 4000000
/-! W25: law. -/
namespace K35
open PySem PySem.Spec PyProof.Rows L2 CM
theorem MapAt.but {K : PySem.W.Frag} {H H' : Hp} {p b : Addr} {n : Nat} {f : PF} (m : MapAt K H p n f) (s : But b H H') (hb : PoolAt H b) : MapAt K H' p n f := by
  obtain ⟨dx, d, h1, h2⟩ := m.ob
  obtain ⟨x, y, h3, _⟩ := hb
  exact { m with ob := ⟨dx, d, s _ _ h1 (ne_of h1 h3 (by intro z; cases z)), s _ _ h2 (ne_of h2 h3 (by intro z; cases z))⟩ }
theorem mk_hd {H1 : Hp} {d x dx C : Addr} {o : HO} (hd : H1 d = some o) (nx : H1 x = none) (ndx : H1 dx = none) : (upd (upd H1 dx (.own x)) x (.ins C dx [])) d = some o := by
  rw [upd_ne (ne_of_none hd nx), upd_ne (ne_of_none hd ndx)]; exact hd
theorem mk_same {H1 H' : Hp} {x dx C : Addr} (nx : H1 x = none) (ndx : H1 dx = none) (s : ∀ b o, (upd (upd H1 dx (.own x)) x (.ins C dx [])) b = some o → b ≠ x → H' b = some o) : Same H1 H' := fun b o e =>
  s b o (mk_hd e nx ndx) (ne_of_none e nx)
section
variable {P : Program} {w : World} {K : PySem.W.Frag} {mg : Str → Option Value} {base : Heap}
theorem okf {d : He5.DefA} {N ps : List Str} {k : Nat} {sp : Sp} (T : Txt K mg base) {fd : FuncData} (F : L2.FunD K d.name d.qual d.params d.body d.scope [] (d.kws K) (d.at_ K) fd) (S : FnScope N ps d.scope)
    (len : ∀ vs H Q E, sp vs H Q E → vs.length = ps.length)
    (hbody : ∀ (cdv : Value) (A : Around) (outer : List Env) (s : Shared) (H : Hp) (vs : List V) (Q : VK) (E : XK), Room k (A.deeper (envOfC d.qual d.scope s.heap.objs.size (d.at_ K) cdv)) → sp vs H Q E →
      ∃ t, PSs (cxOf CX0 P w K mg base N d.qual d.scope (d.at_ K) cdv A outer s H E).nox d.body t ∧ t { nx := fun _ H' => Q .non H', rt := Q } (start N vs) H) : FnOk P w K mg base CX0 (k + 1) (d.at_ K) fd ps sp :=
  F.ok S len fun cdv A outer s H vs Q E hr h => let ⟨t, h1, h2⟩ := hbody cdv A outer s H vs Q E hr h; ⟨t, PSs.nox h1, h2⟩
def sp_law (K : PySem.W.Frag) : Sp := fun vs H Q _ => ∃ (a : Addr) (ns : List Int), vs = [.ref a] ∧ SqL K H a (ns.map V.int) ∧ (∀ H' : Hp, Same H H' → SqL K H' a (ns.map V.int)) ∧ ns.length ≤ 1000 ∧ ∀ H', Q (.bl true) H'
theorem fn_law (T : Txt K mg base) {fd : FuncData} (F : L2.FunD K d_law.name d_law.qual d_law.params d_law.body d_law.scope [] (d_law.kws K) (d_law.at_ K) fd) : FnOk P w K mg base CX0 63 (d_law.at_ K) fd ["_law_script"] (sp_law K) := by
  refine okf (d := d_law) T F sc_law (fun vs H Q E h => ?_) (fun cdv A outer s H vs Q E hr h => ?_)
  · obtain ⟨a, ns, rfl, _⟩ := h; rfl
  obtain ⟨a, ns, rfl, ha, haS, hn, q⟩ := h
  refine ⟨_, (pss_cons (ps_for PassesOwn.never rfl (pi_range1 rfl T.f_range (pa_cons (pe_callB (call_max2 rfl) rfl T.f_max (by decide +kernel) (pa_cons pe_int (pa_cons (pe_callB (call_min2 rfl) rfl T.f_min (by decide +kernel) (pa_cons (pe_callB call_len_seq rfl T.f_len (by decide +kernel) (pa_cons (pv 0) pa_nil)) (pa_cons pe_int pa_nil))) pa_nil))) pa_nil)) (pg_name (i := 1) sc_law.nd rfl (Or.inl rfl))
      (pss_cons (ps_set (i := 2) sc_law.nd rfl (Or.inl rfl) (pe_cD (ok_law_hand T) (hr.mono (by decide)) T.g_law_hand (pa_cons (pv 0) (pa_cons (pv 1) pa_nil))))
      (pss_cons (ps_set (i := 3) sc_law.nd rfl (Or.inl rfl) (pe_op op_add pe_int (pe_cD (ok_law_draw T) (hr.mono (by decide)) T.g_law_draw (pa_cons (pv 2) (pa_cons pe_int pa_nil)))))
      (pss_cons (ps_set (i := 4) sc_law.nd rfl (Or.inl rfl) (pe_mkD (ok_Map_init T) T.mk_Map (hr.mono (by decide)) T.g_Map (pa_cons (pv 3) (pa_cons (pe_cD (ok_law_full T) (hr.mono (by decide)) T.g_law_full (pa_cons (pv 2) (pa_cons (pv 3) pa_nil))) pa_nil))))
      (pss_cons (ps_set (i := 5) sc_law.nd rfl (Or.inl rfl) (pe_mkD (ok_Map_init T) T.mk_Map (hr.mono (by decide)) T.g_Map (pa_cons (pv 3) (pa_cons (pe_cD (ok_law_arrows T) (hr.mono (by decide)) T.g_law_arrows (pa_cons (pv 2) (pa_cons (pv 3) (pa_cons pe_int pa_nil)))) pa_nil))))
      (pss_cons (ps_set (i := 6) sc_law.nd rfl (Or.inl rfl) (pe_mkD (ok_Map_init T) T.mk_Map (hr.mono (by decide)) T.g_Map (pa_cons (pv 3) (pa_cons (pe_cD (ok_law_arrows T) (hr.mono (by decide)) T.g_law_arrows (pa_cons (pv 2) (pa_cons (pv 3) (pa_cons (pe_op op_add pe_int (pe_cD (ok_law_draw T) (hr.mono (by decide)) T.g_law_draw (pa_cons (pv 2) (pa_cons pe_int pa_nil)))) pa_nil)))) pa_nil))))
      (pss_cons (ps_set (i := 7) sc_law.nd rfl (Or.inl rfl) (pe_lst (pa_cons (pe_op (op_oD (ok_Map_mul T) (hr.mono (by decide)) (T.c.ex 7) T.m_Map_mul) (pe_op (op_oD (ok_Map_mul T) (hr.mono (by decide)) (T.c.ex 7) T.m_Map_mul) (pe_un (un_oD (ok_Map_invert T) (hr.mono (by decide)) T.m_Map_invert) (pv 4)) (pv 5)) (pv 4)) (pa_cons (pe_op (op_oD (ok_Map_mul T) (hr.mono (by decide)) (T.c.ex 7) T.m_Map_mul) (pe_op (op_oD (ok_Map_mul T) (hr.mono (by decide)) (T.c.ex 7) T.m_Map_mul) (pe_un (un_oD (ok_Map_invert T) (hr.mono (by decide)) T.m_Map_invert) (pv 4)) (pv 6)) (pv 4)) pa_nil))))
      (pss_cons (ps_if (pt_not (pt_val (pe_cD (ok_law_same T) (hr.mono (by decide)) T.g_law_same (pa_cons (pe_op (op_oD (ok_Map_mul T) (hr.mono (by decide)) (T.c.ex 7) T.m_Map_mul) (pv 5) (pv 6)) (pa_cons (pe_op (op_oD (ok_Map_mul T) (hr.mono (by decide)) (T.c.ex 7) T.m_Map_mul) (pe_ix ix_list (pv 7) pe_int (fun _ _ => rfl)) (pe_ix ix_list (pv 7) pe_int (fun _ _ => rfl))) (pa_cons (pv 4) pa_nil)))))) (pss_one (ps_ret pe_bl)) pss_nil)
      (pss_cons (ps_if (pt_not (pt_val (pe_cD (ok_law_same T) (hr.mono (by decide)) T.g_law_same (pa_cons (pe_op (op_oD (ok_Map_and T) (hr.mono (by decide)) (T.c.ex 7) T.m_Map_and) (pv 5) (pv 6)) (pa_cons (pe_op (op_oD (ok_Map_and T) (hr.mono (by decide)) (T.c.ex 7) T.m_Map_and) (pe_ix ix_list (pv 7) pe_int (fun _ _ => rfl)) (pe_ix ix_list (pv 7) pe_int (fun _ _ => rfl))) (pa_cons (pv 4) pa_nil)))))) (pss_one (ps_ret pe_bl)) pss_nil)
      (pss_cons (ps_if (PW.pt (pw_or (pt_cmpR op_ne (pe_cD (ok_commute T) (hr.mono (by decide)) T.g_commute (pa_cons (pv 5) (pa_cons (pv 6) pa_nil))) (pe_cD (ok_commute T) (hr.mono (by decide)) T.g_commute (pa_cons (pe_ix ix_list (pv 7) pe_int (fun _ _ => rfl)) (pa_cons (pe_ix ix_list (pv 7) pe_int (fun _ _ => rfl)) pa_nil))) (nomark _)) (pw_or1 (pt_cmpR op_ne (pe_cmpR (cmp_oD (ok_Map_le T) (hr.mono (by decide)) T.m_Map_le) (pv 5) (pv 6) (nomark _)) (pe_cmpR (cmp_oD (ok_Map_le T) (hr.mono (by decide)) T.m_Map_le) (pe_ix ix_list (pv 7) pe_int (fun _ _ => rfl)) (pe_ix ix_list (pv 7) pe_int (fun _ _ => rfl)) (nomark _)) (nomark _))))) (pss_one (ps_ret pe_bl)) pss_nil)
      (pss_cons (ps_set (i := 8) sc_law.nd rfl (Or.inl rfl) (pe_ix ix_list (pe_lst (pa_cons pe_int (pa_cons pe_int (pa_cons pe_int (pa_cons pe_int pa_nil))))) (pe_cD (ok_law_draw T) (hr.mono (by decide)) T.g_law_draw (pa_cons (pv 2) (pa_cons pe_int pa_nil))) (fun _ _ => rfl)))
      (pss_cons (ps_if (PW.pt (pw_or (pt_not (pt_val (pe_cD (ok_law_single T) (hr.mono (by decide)) T.g_law_single (pa_cons (pv 5) (pa_cons (pe_ix ix_list (pv 7) pe_int (fun _ _ => rfl)) (pa_cons (pv 4) (pa_cons (pv 8) pa_nil))))))) (pw_or1 (pt_not (pt_val (pe_cD (ok_law_single T) (hr.mono (by decide)) T.g_law_single (pa_cons (pv 6) (pa_cons (pe_ix ix_list (pv 7) pe_int (fun _ _ => rfl)) (pa_cons (pv 4) (pa_cons (pv 8) pa_nil)))))))))) (pss_one (ps_ret pe_bl)) pss_nil)
      (pss_cons (ps_set (i := 9) sc_law.nd rfl (Or.inl rfl) (pe_cmD (ok_Map_identity T) (hr.mono (by decide)) rfl T.g_Map T.cread T.cmet (pa_cons (pv 3) pa_nil)))
      (pss_one (ps_if (PW.pt (pw_or (pt_not (pt_val (pe_cD (ok_law_steps T) (hr.mono (by decide)) T.g_law_steps (pa_cons (pv 5) (pa_cons (pv 6) (pa_cons (pv 4) (pa_cons (pv 7) pa_nil))))))) (pw_or1 (pt_not (pt_val (pe_cD (ok_law_steps T) (hr.mono (by decide)) T.g_law_steps (pa_cons (pv 9) (pa_cons (pv 5) (pa_cons (pv 4) (pa_cons (pe_lst (pa_cons (pv 9) (pa_cons (pe_ix ix_list (pv 7) pe_int (fun _ _ => rfl)) pa_nil))) pa_nil)))))))))) (pss_one (ps_ret pe_bl)) pss_nil)))))))))))))))
      (pss_one (ps_ret pe_bl))), ?_⟩
  refine ⟨_, rfl, a, _, rfl, .inl ha, _, _, rfl, _, _, rfl, ?_⟩
  have eN : ∃ k : Nat, (if (2 : Int) < (if (8 : Int) < ((ns.map V.int).length : Int) then 8 else ((ns.map V.int).length : Int)) then (if (8 : Int) < ((ns.map V.int).length : Int) then 8 else ((ns.map V.int).length : Int)) else 2) = (k : Int) ∧ k ≤ 8 := by
    by_cases h1 : (8 : Int) < ((ns.map V.int).length : Int)
    · rw [if_pos h1]; exact ⟨8, rfl, Nat.le_refl _⟩
    · rw [if_neg h1]
      by_cases h2 : (2 : Int) < ((ns.map V.int).length : Int)
      · rw [if_pos h2]; exact ⟨(ns.map V.int).length, rfl, by omega⟩
      · rw [if_neg h2]; exact ⟨2, rfl, by omega⟩
  obtain ⟨k, ek, k8⟩ := eN
  refine ⟨k, by rw [← ek], by omega, by omega, ?_⟩
  rw [Int.toNat_natCast]
  refine for_it walk_range0 (fun i σ H' => ∃ o1 o2 o3 o4 o5 o6 o7 o8 o9, σ = [some (.ref a), o1, o2, o3, o4, o5, o6, o7, o8, o9] ∧ Same H H') ⟨none, none, none, none, none, none, none, none, none, rfl, Same.refl _⟩ (fun _ _ _ _ _ => trivial) ?_ ?_
  · rintro i v σ H' H0 hi ⟨o1, o2, o3, o4, o5, o6, o7, o8, o9, rfl, s0⟩ ⟨rfl, rfl⟩
    refine ⟨_, rfl, _, rfl, a, ns, i, rfl, haS _ s0, hn, by omega, fun b H1 s1 hb pb => ?_⟩
    have sz : Same H H1 := s0.trans s1
    have nb : ∀ c o, H c = some o → c ≠ b := fun c o e => ne_of_none (s0 _ _ e) hb
    have bs : ∀ {H2 H3 : Hp}, Same H H2 → But b H2 H3 → Same H H3 := fun s bt c o e => bt c o (s c o e) (nb c o e)
    refine ⟨_, rfl, b, 12, rfl, pb, by omega, by omega, fun r H2 hr2 b2 p2 => ⟨_, _, rfl, rfl, ?_⟩⟩
    have s2 := bs sz b2
    have er : V.int (1 + (r : Int)) = nv (r + 1) := by show V.int _ = V.int _; rw [show (1 + (r : Int)) = ((r + 1 : Nat) : Int) by omega]
    dsimp only
    rw [er]
    have n1 : 1 ≤ r + 1 := by omega
    have n2 : r + 1 ≤ 12 := by omega
    generalize r + 1 = n at *
    refine ⟨_, rfl, _, rfl, _, rfl, b, n, rfl, p2, n1, n2, fun d3 H3 ps3 π b3 p3 hd3 rep3 pm => fun t dx nt ndt ntt => ⟨t, dx, n, d3, ps3, pF n π, rfl, upd_same, mk_hd hd3 nt ndt, rep3, pF_pi pm, n1, n2, fun H4 s4 mb => ⟨rfl, ?_⟩⟩⟩
    have s4 := mk_same nt ndt s4
    have p4 := p3.same s4
    have t4 := (bs s2 b3).trans s4
    refine ⟨_, rfl, _, rfl, _, rfl, b, n, 3, rfl, p4, n1, n2, fun d5 H5 ps5 f b5 p5 hd5 rep5 pf => fun p dx5 np ndp npp => ⟨p, dx5, n, d5, ps5, f, rfl, upd_same, mk_hd hd5 np ndp, rep5, pf, n1, n2, fun H6 s6 m => ⟨rfl, ?_⟩⟩⟩
    have s6 := mk_same np ndp s6
    have p6 := p5.same s6
    have mb := (mb.but b5 p4).same s6
    have t6 := (bs t4 b5).trans s6
    refine ⟨_, rfl, _, rfl, _, rfl, _, rfl, b, 4, rfl, p6, by omega, by omega, fun r7 H7 hr7 b7 p7 => ⟨_, _, rfl, rfl, ?_⟩⟩
    have e7 : V.int (1 + (r7 : Int)) = nv (r7 + 1) := by show V.int _ = V.int _; rw [show (1 + (r7 : Int)) = ((r7 + 1 : Nat) : Int) by omega]
    have mb := mb.but b7 p6
    have m := m.but b7 p6
    have t7 := bs t6 b7
    refine ⟨b, n, r7 + 1, by rw [← e7], p7, n1, n2, fun d8 H8 ps8 g b8 p8 hd8 rep8 pg => fun r' dx8 nr ndr nrr => ⟨r', dx8, n, d8, ps8, g, rfl, upd_same, mk_hd hd8 nr ndr, rep8, pg, n1, n2, fun H9 s9 m' => ⟨rfl, ?_⟩⟩⟩
    have s9 := mk_same nr ndr s9
    have mb := (mb.but b8 p7).same s9
    have m := (m.but b8 p7).same s9
    have t9 := (bs t7 b8).trans s9
    have p9 := p8.same s9
    clear b2 b3 b5 b7 b8 p2 p3 p4 p5 p6 p7 p8
    -- renamed
    obtain ⟨_, _, z0, _⟩ := mb.ob
    refine ⟨_, rfl, t, _, _, rfl, z0, t, n, _, rfl, mb, fun x1 H10 hx1 s10 k1 => ?_⟩
    have m := m.same s10
    have m' := m'.same s10
    have mb := mb.same s10
    obtain ⟨_, _, z1, _⟩ := k1.ob
    obtain ⟨_, _, z2, _⟩ := m.ob
    refine ⟨_, rfl, x1, p, _, _, _, _, rfl, rfl, z1, z2, x1, p, n, _, f, rfl, k1, m, fun x2 H11 hx2 s11 k2 => ?_⟩
    have m := m.same s11
    have m' := m'.same s11
    have mb := mb.same s11
    obtain ⟨_, _, z3, _⟩ := k2.ob
    obtain ⟨_, _, z4, _⟩ := mb.ob
    refine ⟨_, rfl, x2, t, _, _, _, _, rfl, rfl, z3, z4, x2, t, n, _, _, rfl, k2, mb, fun x H12 hx s12 mx => ?_⟩
    have m := m.same s12
    have m' := m'.same s12
    have mb := mb.same s12
    have t12 := t9.trans (s10.trans (s11.trans s12))
    have p12 := ((p9.same s10).same s11).same s12
    obtain ⟨_, _, z5, _⟩ := mb.ob
    refine ⟨_, rfl, t, _, _, rfl, z5, t, n, _, rfl, mb, fun y1 H13 hy1 s13 j1 => ?_⟩
    have m := m.same s13
    have m' := m'.same s13
    have mb := mb.same s13
    have mx := mx.same s13
    obtain ⟨_, _, z6, _⟩ := j1.ob
    obtain ⟨_, _, z7, _⟩ := m'.ob
    refine ⟨_, rfl, y1, r', _, _, _, _, rfl, rfl, z6, z7, y1, r', n, _, g, rfl, j1, m', fun y2 H14 hy2 s14 j2 => ?_⟩
    have m := m.same s14
    have m' := m'.same s14
    have mb := mb.same s14
    have mx := mx.same s14
    obtain ⟨_, _, z8, _⟩ := j2.ob
    obtain ⟨_, _, z9, _⟩ := mb.ob
    refine ⟨_, rfl, y2, t, _, _, _, _, rfl, rfl, z8, z9, y2, t, n, _, _, rfl, j2, mb, fun y H15 hy s15 my => ?_⟩
    have m := m.same s15
    have m' := m'.same s15
    have mb := mb.same s15
    have mx := mx.same s15
    have t15 := t12.trans (s13.trans (s14.trans s15))
    have p15 := ((p12.same s13).same s14).same s15
    refine ⟨by show 2 ≤ sizeLine; decide, fun c hc => ?_⟩
    have ncb : c ≠ b := by
      obtain ⟨_, _, hb15, _⟩ := p15
      exact (ne_of_none hb15 hc).symm
    have sc := same_new (o := .lst [.ref x, .ref y]) (Same.refl H15) hc
    have hc1 : upd H15 c (.lst [.ref x, .ref y]) c = some (.lst [.ref x, .ref y]) := upd_same
    have m := m.same sc
    have m' := m'.same sc
    have mb := mb.same sc
    have mx := mx.same sc
    have my := my.same sc
    have t16 := t15.trans sc
    have p16 := p15.same sc
    have e0 : atI [V.ref x, V.ref y] 0 = some (.ref x) := atI_nat (j := 0) rfl
    have e1 : atI [V.ref x, V.ref y] 1 = some (.ref y) := atI_nat (j := 1) rfl
    generalize upd H15 c (.lst [.ref x, .ref y]) = H16 at *
    have R := rnF_ren pm m.pi
    have R' := rnF_ren pm m'.pi
    obtain ⟨_, _, o_m, _⟩ := m.ob
    obtain ⟨_, _, o_mq, _⟩ := m'.ob
    refine ⟨_, rfl, _, rfl, p, r', _, _, _, _, rfl, rfl, o_m, o_mq, p, r', n, f, g, rfl, m, m', fun u H17 hu s17 ku => ?_⟩
    have m := m.same s17
    have m' := m'.same s17
    have mb := mb.same s17
    have mx := mx.same s17
    have my := my.same s17
    have p16 := p16.same s17
    have hc1 := s17 _ _ hc1
    obtain ⟨_, _, o_mx, _⟩ := mx.ob
    obtain ⟨_, _, o_my, _⟩ := my.ob
    refine ⟨_, rfl, c, _, 0, _, rfl, rfl, SqL.of hc1, e0, _, rfl, c, _, 1, _, rfl, rfl, SqL.of hc1, e1, x, y, _, _, _, _, rfl, rfl, o_mx, o_my, x, y, n, _, _, rfl, mx, my, fun v H18 hv s18 kv => ?_⟩
    have m := m.same s18
    have m' := m'.same s18
    have mb := mb.same s18
    have mx := mx.same s18
    have my := my.same s18
    have p16 := p16.same s18
    have hc1 := s18 _ _ hc1
    have ku := ku.same s18
    refine ⟨_, rfl, u, v, t, n, _, _, pF n π, rfl, ku, kv, mb, fun H19 s19 => ⟨true, ?_, iteF ?_⟩⟩
    · rw [rnF_eq pm ku.pi kv.pi (Ren.mul m.pi R R'), eqF_refl]
    have m := m.same s19
    have m' := m'.same s19
    have mb := mb.same s19
    have mx := mx.same s19
    have my := my.same s19
    have p16 := p16.same s19
    have hc1 := s19 _ _ hc1
    have t16 := t16.trans (s17.trans (s18.trans s19))
    obtain ⟨_, _, o_m, _⟩ := m.ob
    obtain ⟨_, _, o_mq, _⟩ := m'.ob
    refine ⟨_, rfl, _, rfl, p, r', _, _, _, _, rfl, rfl, o_m, o_mq, p, r', n, f, g, rfl, m, m', fun u H20 hu s20 ku => ?_⟩
    have m := m.same s20
    have m' := m'.same s20
    have mb := mb.same s20
    have mx := mx.same s20
    have my := my.same s20
    have p16 := p16.same s20
    have hc1 := s20 _ _ hc1
    obtain ⟨_, _, o_mx, _⟩ := mx.ob
    obtain ⟨_, _, o_my, _⟩ := my.ob
    refine ⟨_, rfl, c, _, 0, _, rfl, rfl, SqL.of hc1, e0, _, rfl, c, _, 1, _, rfl, rfl, SqL.of hc1, e1, x, y, _, _, _, _, rfl, rfl, o_mx, o_my, x, y, n, _, _, rfl, mx, my, fun v H21 hv s21 kv => ?_⟩
    have m := m.same s21
    have m' := m'.same s21
    have mb := mb.same s21
    have mx := mx.same s21
    have my := my.same s21
    have p16 := p16.same s21
    have hc1 := s21 _ _ hc1
    have ku := ku.same s21
    refine ⟨_, rfl, u, v, t, n, _, _, pF n π, rfl, ku, kv, mb, fun H22 s22 => ⟨true, ?_, iteF ?_⟩⟩
    · rw [rnF_eq pm ku.pi kv.pi (Ren.and pm m.pi m'.pi R R'), eqF_refl]
    have m := m.same s22
    have m' := m'.same s22
    have mb := mb.same s22
    have mx := mx.same s22
    have my := my.same s22
    have p16 := p16.same s22
    have hc1 := s22 _ _ hc1
    have t16 := t16.trans (s20.trans (s21.trans s22))
    refine ⟨_, rfl, _, rfl, p, r', n, f, g, rfl, m, m', fun H23 s23 => ?_⟩
    have m := m.same s23
    have m' := m'.same s23
    have mb := mb.same s23
    have mx := mx.same s23
    have my := my.same s23
    have p16 := p16.same s23
    have hc1 := s23 _ _ hc1
    refine ⟨_, rfl, c, _, 0, _, rfl, rfl, SqL.of hc1, e0, _, rfl, c, _, 1, _, rfl, rfl, SqL.of hc1, e1, x, y, n, _, _, rfl, mx, my, fun H24 s24 => ⟨rfl, false, ?_, iteF ?_⟩⟩
    · rw [commute_ren pm m.pi m'.pi mx.pi my.pi R R']
      show V.bl (!decide (_ = _)) = _
      rw [decide_eq_true rfl]; rfl
    have m := m.same s24
    have m' := m'.same s24
    have mb := mb.same s24
    have mx := mx.same s24
    have my := my.same s24
    have p16 := p16.same s24
    have hc1 := s24 _ _ hc1
    obtain ⟨_, _, o_m, _⟩ := m.ob
    obtain ⟨_, _, o_mq, _⟩ := m'.ob
    refine ⟨_, rfl, _, rfl, p, r', _, _, _, _, rfl, rfl, o_m, o_mq, p, r', n, f, g, rfl, m, m', fun H25 s25 => ?_⟩
    have m := m.same s25
    have m' := m'.same s25
    have mb := mb.same s25
    have mx := mx.same s25
    have my := my.same s25
    have p16 := p16.same s25
    have hc1 := s25 _ _ hc1
    obtain ⟨_, _, o_mx, _⟩ := mx.ob
    obtain ⟨_, _, o_my, _⟩ := my.ob
    refine ⟨_, rfl, c, _, 0, _, rfl, rfl, SqL.of hc1, e0, _, rfl, c, _, 1, _, rfl, rfl, SqL.of hc1, e1, x, y, _, _, _, _, rfl, rfl, o_mx, o_my, x, y, n, _, _, rfl, mx, my, fun H26 s26 => ⟨rfl, false, ?_, iteF ?_⟩⟩
    · rw [leF_ren pm m.pi m'.pi mx.pi my.pi R R']
      show V.bl (!decide (_ = _)) = _
      rw [decide_eq_true rfl]; rfl
    have m := m.same s26
    have m' := m'.same s26
    have mb := mb.same s26
    have mx := mx.same s26
    have my := my.same s26
    have p16 := p16.same s26
    have hc1 := s26 _ _ hc1
    have t16 := t16.trans (s23.trans (s24.trans (s25.trans s26)))
    refine ⟨by show 4 ≤ sizeLine; decide, fun ld hld => ?_⟩
    have sl := same_new (o := .lst [V.int 2, V.int 3, V.int 4, V.int 6]) (Same.refl H26) hld
    have hl1 : upd H26 ld (.lst [V.int 2, V.int 3, V.int 4, V.int 6]) ld = some (.lst [V.int 2, V.int 3, V.int 4, V.int 6]) := upd_same
    have nlb : ld ≠ b := by
      obtain ⟨_, _, hb26, _⟩ := p16
      exact (ne_of_none hb26 hld).symm
    have t16 := t16.trans sl
    have m := m.same sl
    have m' := m'.same sl
    have mb := mb.same sl
    have mx := mx.same sl
    have my := my.same sl
    have p16 := p16.same sl
    have hc1 := sl _ _ hc1
    generalize upd H26 ld (.lst [V.int 2, V.int 3, V.int 4, V.int 6]) = H26' at *
    refine ⟨_, rfl, b, 4, rfl, p16, by omega, by omega, fun r27 H27 hr27 b27 p27 => ?_⟩
    obtain ⟨d, hd, ed⟩ : ∃ d ∈ degs, atI [V.int 2, V.int 3, V.int 4, V.int 6] (r27 : Int) = some (nv d) := by
      match r27, hr27 with
      | 0, _ => exact ⟨2, by decide, atI_nat (j := 0) rfl⟩
      | 1, _ => exact ⟨3, by decide, atI_nat (j := 1) rfl⟩
      | 2, _ => exact ⟨4, by decide, atI_nat (j := 2) rfl⟩
      | 3, _ => exact ⟨6, by decide, atI_nat (j := 3) rfl⟩
    refine ⟨ld, _, _, _, rfl, rfl, SqL.of (b27 _ _ hl1 nlb), ed, ?_⟩
    have t27 := bs t16 b27
    have m := m.but b27 p16
    have m' := m'.but b27 p16
    have mb := mb.but b27 p16
    have mx := mx.but b27 p16
    have my := my.but b27 p16
    have hc1 := b27 _ _ hc1 ncb
    refine ⟨_, rfl, _, rfl, c, _, 0, _, rfl, rfl, SqL.of hc1, e0, _, rfl, _, rfl, p, x, t, n, f, π, d, rfl, m, mx, mb, pm, hd, fun H28 s28 => ⟨true, rfl, iteF ?_⟩⟩
    have m := m.same s28
    have m' := m'.same s28
    have mb := mb.same s28
    have mx := mx.same s28
    have my := my.same s28
    have hc1 := s28 _ _ hc1
    refine ⟨_, rfl, _, rfl, c, _, 1, _, rfl, rfl, SqL.of hc1, e1, _, rfl, _, rfl, r', y, t, n, g, π, d, rfl, m', my, mb, pm, hd, fun H29 s29 => ⟨true, rfl, iteF ?_⟩⟩
    have m := m.same s29
    have m' := m'.same s29
    have mb := mb.same s29
    have mx := mx.same s29
    have my := my.same s29
    have hc1 := s29 _ _ hc1
    refine ⟨_, rfl, n, rfl, n1, n2, fun w0 H30 hw0 s30 mw => ?_⟩
    have m := m.same s30
    have m' := m'.same s30
    have mb := mb.same s30
    have mx := mx.same s30
    have my := my.same s30
    have hc1 := s30 _ _ hc1
    refine ⟨_, rfl, _, rfl, _, rfl, _, rfl, p, r', t, c, x, y, n, f, g, _, _, π, rfl, m, m', mb, pm, hc1, mx, my, R, R', fun H31 s31 => ⟨true, rfl, iteF ?_⟩⟩
    have m := m.same s31
    have m' := m'.same s31
    have mb := mb.same s31
    have mx := mx.same s31
    have my := my.same s31
    have mw := mw.same s31
    have hc1 := s31 _ _ hc1
    refine ⟨_, rfl, _, rfl, _, rfl, _, rfl, _, rfl, c, _, 0, _, rfl, rfl, SqL.of hc1, e0, by show 2 ≤ sizeLine; decide, fun e he => ?_⟩
    have se := same_new (o := .lst [.ref w0, .ref x]) (Same.refl H31) he
    refine ⟨w0, p, t, e, w0, x, n, idF n, f, idF n, _, π, rfl, mw.same se, m.same se, mb.same se, pm, upd_same, mw.same se, mx.same se, Ren.id pm, R, fun H32 s32 => ⟨true, rfl, iteF ?_⟩⟩
    exact ⟨_, _, _, _, _, _, _, _, _, rfl, t27.trans (s28.trans (s29.trans (s30.trans (s31.trans (se.trans s32)))))⟩
  · rintro σ H' ⟨o1, o2, o3, o4, o5, o6, o7, o8, o9, rfl, s0⟩
    exact q H'
end
end K35
end

section
set_option Elab.async false
set_option linter.all false
set_option maxRecDepth 100000
set_option maxHeartbeats 0
/-! W26: the end. -/
namespace K35
open PySem PySem.Spec PyProof.Rows L2 CM
theorem sq_same {K : PySem.W.Frag} {H H' : Hp} {a : Addr} {xs : List V} (h : SqL K H a xs) (s : Same H H') : SqL K H' a xs := by
  rcases h with h | h
  · rcases h with h | ⟨o, h⟩
    · exact .inl (.inl (s _ _ h))
    · exact .inl (.inr ⟨o, s _ _ h⟩)
  · exact .inr h
theorem facts {P : Program} {w : World} {K : PySem.W.Frag} {h : Heap} {mg : Str → Option Value} {f : Addr} (X : K.In h) (G : h.Ns mainGlobals mg) (hfa : mg ("law" : Str) = some (.ref f)) (c : Says K) :
    ∃ fd : FuncData, (∀ (s : Shared) (v : Value), BindsTo s fd ⟨[v], []⟩ [("_law_script", v)]) ∧ ∀ base : Heap, K.In base → base.Ns mainGlobals mg → FnOk P w K mg base CX0 63 f fd ["_law_script"] (sp_law K) := by
  have T0 : Txt K mg h := ⟨c, X, G⟩
  obtain ⟨fd, F⟩ := c.a.def_ 82 (d := d_law) rfl
  have e := hfa.symm.trans T0.g_law
  cases e
  have F : L2.FunD K d_law.name d_law.qual d_law.params d_law.body d_law.scope [] (d_law.kws K) (d_law.at_ K) fd := F
  have b := FunD.bindsA (ps := ["_law_script"]) F fun _ _ _ _ _ _ us hl => match us, hl with | [_], _ => rfl
  exact ⟨fd, fun s v => b s [v] rfl, fun base X' G' => fn_law ⟨c, X', G'⟩ F⟩
end K35
open PySem PySem.W PySem.Calls PyProof.Rows
theorem PySem.Challenge.cw_chainmaps_k35_whole_renamed_maps_holds : PySem.Challenge.rw_chainmaps_k35_whole_renamed_maps.Holds := by
  w_on; o_law
  refine HandSHeadRun.head_any (r := OpenLaw.row PySem.Challenge.rw_chainmaps_k35_whole_renamed_maps) (q := view (OpenLaw.row PySem.Challenge.rw_chainmaps_k35_whole_renamed_maps).prog [K35.lawI]) (H := K35.hk) (ob := K35.ob) (M := 40000) (loose := K35.nmL) (d := HandSHeadRun.topDef (OpenLaw.row PySem.Challenge.rw_chainmaps_k35_whole_renamed_maps).prog K35.lawI) (kwd := []) K35.ob_eq
    (by kernel_rfl) (fun s => by kernel_rfl) K35.run (by kernel_rfl) (by kernel_rfl) (by kernel_rfl) (by rfl) (by first | assumption | decide +kernel) (by decide +kernel) ⟨rfl, rfl, rfl, rfl, rfl, by decide +kernel⟩ ?hw ?hc
  case hw => w_witness2
  case hc =>
    refine L2.walk_ofE (l := PySem.Challenge.rw_chainmaps_k35_whole_renamed_maps) (n := 63) (k := 63) (x := "_law_script") (CX := L2.CX0) rfl (by decide) (by kernel_rfl) ⟨rfl, by decide, by decide⟩ ?F (fun _ _ _ _ z => z)
    intro w mg fa h Y G hmg0
    obtain ⟨K, KX, c⟩ := Y
    have hmg : mg ("law" : PySem.Str) = some (.ref fa) := by
      have e : (HandSHeadRun.topDef (OpenLaw.row PySem.Challenge.rw_chainmaps_k35_whole_renamed_maps).prog K35.lawI).name = ("law" : PySem.Str) := by kernel_rfl
      rw [← e]
      exact hmg0
    obtain ⟨fd, hb, hF⟩ := K35.facts (P := (PySem.Challenge.rw_chainmaps_k35_whole_renamed_maps).prog) (w := w) KX G hmg (K35.obsK1_ok c)
    exact ⟨K, fd, K35.sp_law K, KX, hb, fun H a ns hl _ hS => ⟨a, ns, rfl, hS, fun H' s => K35.sq_same hS s, by omega, fun _ => rfl⟩, hF⟩
end
