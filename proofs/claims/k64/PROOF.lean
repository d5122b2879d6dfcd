import PyProof.Rows.All
import Wide.All
import OpenK.AllK
import Wide.FinOn
import KE.KStateDown
import Lean
import HandS.ForMost
import HandS.More
import HandS.WordsExc
import HandS.Defaults
import HandS.Star
import HandS.Flow
import HandS.Style
import HandS.Deep
import HandS.DictComp
import HandS.DictTup
import HandS.TupAny
import HandS.TupLen
import HandS.Conv
import HandS.NoneIn
import HandS.IsInst
import HandS.Walk
import HandS.Wide
import HandS.SortKw
import HandS.SetKeys
import HandS.TupSets
import HandS.Strs
import HandS.Remove
import HandS.Head0
import HandS.Head1
import HandS.Head2
import HandS.HeadEnd
import HandS.HeadHook1
import HandS.HeadHook2
import KE.KDictDisplayH
import KE.KDictPairs
import HandS.SetBool
import HandS.SetTxt0
import HandS.SortOrd
import KE.SortData
import HandS.ListItems
import PyProof.TupleOfSeq
import PySem.Challenge.RW_bothfree_k64_whole_fewest_and_most
set_option Elab.async false
set_option linter.all false
set_option maxRecDepth 100000
set_option maxHeartbeats 4000000
/-! The text by places, the facts of its top by names. -/
namespace BF
open PySem PySem.Spec PyProof.Rows L2
def top (i : Nat) : Stmt := PySem.Challenge.pw_bothfree_k64_whole_fewest_and_most.main.body.getD i (.Pass ⟨0, 0, 0, 0⟩)
abbrev s_is_integer : Stmt := top 18
abbrev s_is_name : Stmt := top 19
abbrev s_need_things : Stmt := top 21
abbrev s_need_number : Stmt := top 23
abbrev s_need_names : Stmt := top 24
abbrev s_less : Stmt := top 25
abbrev s_with_thing : Stmt := top 26
abbrev s_Family_init : Stmt := inClass (top 29) 0
abbrev s_Family_rank_of : Stmt := inClass (top 29) 1
abbrev s_Family_len : Stmt := inClass (top 29) 3
abbrev s_Family_contains : Stmt := inClass (top 29) 4
abbrev s_Family_stuck : Stmt := inClass (top 29) 10
abbrev s_ring_within : Stmt := top 31
abbrev s_Listed_init : Stmt := inClass (top 32) 0
abbrev s_Listed_count_free : Stmt := inClass (top 32) 1
abbrev s_need_bases : Stmt := top 33
abbrev s_changes : Stmt := top 34
abbrev s_listed : Stmt := top 35
abbrev s_Parting_init : Stmt := inClass (top 38) 0
abbrev s_Parting_in_the_way : Stmt := inClass (top 38) 1
abbrev s_Parting_shift : Stmt := inClass (top 38) 2
abbrev s_Parting_place : Stmt := inClass (top 38) 3
abbrev s_Parting_told : Stmt := inClass (top 38) 4
abbrev s_all_placed : Stmt := top 39
abbrev s_most_placed : Stmt := top 40
abbrev s_copies : Stmt := top 41
abbrev s_need_lots : Stmt := top 42
abbrev s_covered : Stmt := top 43
abbrev s_packed : Stmt := top 44
abbrev s_fewest : Stmt := top 45
abbrev s_most : Stmt := top 46
abbrev s_need_places : Stmt := top 49
abbrev s_is_pair : Stmt := top 50
abbrev s_Web_init : Stmt := inClass (top 51) 0
abbrev s_Web_marks : Stmt := inClass (top 51) 5
abbrev s_Web_count_free : Stmt := inClass (top 51) 6
abbrev s_ties_family : Stmt := top 52
abbrev s_Joined_init : Stmt := inClass (top 54) 0
abbrev s_Joined_count_free : Stmt := inClass (top 54) 1
abbrev s_Short_init : Stmt := inClass (top 55) 0
abbrev s_Short_count_free : Stmt := inClass (top 55) 1
abbrev s_AllFree_count_free : Stmt := inClass (top 56) 0
abbrev s_Renamed_init : Stmt := inClass (top 57) 0
abbrev s_Renamed_count_free : Stmt := inClass (top 57) 1
abbrev s_joined : Stmt := top 58
abbrev s_cut_short : Stmt := top 59
abbrev s_named : Stmt := top 60
abbrev s_free_on : Stmt := top 61
abbrev s_law_source : Stmt := top 63
abbrev s_law_draw : Stmt := top 64
abbrev s_law_pick : Stmt := top 65
abbrev s_law_names : Stmt := top 66
abbrev s_law_shuffled : Stmt := top 67
abbrev s_law_lots : Stmt := top 68
abbrev s_law_rings_round : Stmt := top 69
abbrev s_law_apart : Stmt := top 70
abbrev s_law_web_drawn : Stmt := top 71
abbrev s_law_bases : Stmt := top 72
abbrev s_law_all_lots : Stmt := top 73
abbrev s_law_world : Stmt := top 74
abbrev s_law_rank : Stmt := top 75
abbrev s_law_ranks : Stmt := top 76
abbrev s_law_fewest : Stmt := top 77
abbrev s_law_most : Stmt := top 78
abbrev s_law_like : Stmt := top 79
abbrev s_law_sided : Stmt := top 80
abbrev s_law : Stmt := top 81
def d_is_integer : He.DefD := ⟨("is_integer", none), "is_integer", "is_integer", defArgs s_is_integer, defBody s_is_integer, defScope s_is_integer, [], []⟩
def d_is_name : He.DefD := ⟨("is_name", none), "is_name", "is_name", defArgs s_is_name, defBody s_is_name, defScope s_is_name, [], []⟩
def d_need_things : He.DefD := ⟨("need_things", none), "need_things", "need_things", defArgs s_need_things, defBody s_need_things, defScope s_need_things, [], []⟩
def d_need_number : He.DefD := ⟨("need_number", none), "need_number", "need_number", defArgs s_need_number, defBody s_need_number, defScope s_need_number, [], []⟩
def d_need_names : He.DefD := ⟨("need_names", none), "need_names", "need_names", defArgs s_need_names, defBody s_need_names, defScope s_need_names, [], []⟩
def d_less : He.DefD := ⟨("less", none), "less", "less", defArgs s_less, defBody s_less, defScope s_less, [], []⟩
def d_with_thing : He.DefD := ⟨("with_thing", none), "with_thing", "with_thing", defArgs s_with_thing, defBody s_with_thing, defScope s_with_thing, [], []⟩
def d_Family_init : He.DefD := ⟨("Family", some "__init__"), "__init__", "Family.__init__", defArgs s_Family_init, defBody s_Family_init, defScope s_Family_init, [], []⟩
def d_Family_rank_of : He.DefD := ⟨("Family", some "rank_of"), "rank_of", "Family.rank_of", defArgs s_Family_rank_of, defBody s_Family_rank_of, defScope s_Family_rank_of, [], []⟩
def d_Family_len : He.DefD := ⟨("Family", some "__len__"), "__len__", "Family.__len__", defArgs s_Family_len, defBody s_Family_len, defScope s_Family_len, [], []⟩
def d_Family_contains : He.DefD := ⟨("Family", some "__contains__"), "__contains__", "Family.__contains__", defArgs s_Family_contains, defBody s_Family_contains, defScope s_Family_contains, [], []⟩
def d_Family_stuck : He.DefD := ⟨("Family", some "stuck"), "stuck", "Family.stuck", defArgs s_Family_stuck, defBody s_Family_stuck, defScope s_Family_stuck, [], []⟩
def d_ring_within : He.DefD := ⟨("ring_within", none), "ring_within", "ring_within", defArgs s_ring_within, defBody s_ring_within, defScope s_ring_within, [], []⟩
def d_Listed_init : He.DefD := ⟨("Listed", some "__init__"), "__init__", "Listed.__init__", defArgs s_Listed_init, defBody s_Listed_init, defScope s_Listed_init, [], []⟩
def d_Listed_count_free : He.DefD := ⟨("Listed", some "count_free"), "count_free", "Listed.count_free", defArgs s_Listed_count_free, defBody s_Listed_count_free, defScope s_Listed_count_free, [], []⟩
def d_need_bases : He.DefD := ⟨("need_bases", none), "need_bases", "need_bases", defArgs s_need_bases, defBody s_need_bases, defScope s_need_bases, [], []⟩
def d_changes : He.DefD := ⟨("changes", none), "changes", "changes", defArgs s_changes, defBody s_changes, defScope s_changes, [], []⟩
def d_listed : He.DefD := ⟨("listed", none), "listed", "listed", defArgs s_listed, defBody s_listed, defScope s_listed, [], []⟩
def d_Parting_init : He.DefD := ⟨("Parting", some "__init__"), "__init__", "Parting.__init__", defArgs s_Parting_init, defBody s_Parting_init, defScope s_Parting_init, [], []⟩
def d_Parting_in_the_way : He.DefD := ⟨("Parting", some "in_the_way"), "in_the_way", "Parting.in_the_way", defArgs s_Parting_in_the_way, defBody s_Parting_in_the_way, defScope s_Parting_in_the_way, [], []⟩
def d_Parting_shift : He.DefD := ⟨("Parting", some "shift"), "shift", "Parting.shift", defArgs s_Parting_shift, defBody s_Parting_shift, defScope s_Parting_shift, [], []⟩
def d_Parting_place : He.DefD := ⟨("Parting", some "place"), "place", "Parting.place", defArgs s_Parting_place, defBody s_Parting_place, defScope s_Parting_place, [], []⟩
def d_Parting_told : He.DefD := ⟨("Parting", some "told"), "told", "Parting.told", defArgs s_Parting_told, defBody s_Parting_told, defScope s_Parting_told, [], []⟩
def d_all_placed : He.DefD := ⟨("all_placed", none), "all_placed", "all_placed", defArgs s_all_placed, defBody s_all_placed, defScope s_all_placed, [], []⟩
def d_most_placed : He.DefD := ⟨("most_placed", none), "most_placed", "most_placed", defArgs s_most_placed, defBody s_most_placed, defScope s_most_placed, [], []⟩
def d_copies : He.DefD := ⟨("copies", none), "copies", "copies", defArgs s_copies, defBody s_copies, defScope s_copies, [], []⟩
def d_need_lots : He.DefD := ⟨("need_lots", none), "need_lots", "need_lots", defArgs s_need_lots, defBody s_need_lots, defScope s_need_lots, [], []⟩
def d_covered : He.DefD := ⟨("covered", none), "covered", "covered", defArgs s_covered, defBody s_covered, defScope s_covered, [], []⟩
def d_packed : He.DefD := ⟨("packed", none), "packed", "packed", defArgs s_packed, defBody s_packed, defScope s_packed, [], []⟩
def d_fewest : He.DefD := ⟨("fewest", none), "fewest", "fewest", defArgs s_fewest, defBody s_fewest, defScope s_fewest, [], []⟩
def d_most : He.DefD := ⟨("most", none), "most", "most", defArgs s_most, defBody s_most, defScope s_most, [], []⟩
def d_need_places : He.DefD := ⟨("need_places", none), "need_places", "need_places", defArgs s_need_places, defBody s_need_places, defScope s_need_places, [], []⟩
def d_is_pair : He.DefD := ⟨("is_pair", none), "is_pair", "is_pair", defArgs s_is_pair, defBody s_is_pair, defScope s_is_pair, [], []⟩
def d_Web_init : He.DefD := ⟨("Web", some "__init__"), "__init__", "Web.__init__", defArgs s_Web_init, defBody s_Web_init, defScope s_Web_init, [], []⟩
def d_Web_marks : He.DefD := ⟨("Web", some "marks"), "marks", "Web.marks", defArgs s_Web_marks, defBody s_Web_marks, defScope s_Web_marks, [], []⟩
def d_Web_count_free : He.DefD := ⟨("Web", some "count_free"), "count_free", "Web.count_free", defArgs s_Web_count_free, defBody s_Web_count_free, defScope s_Web_count_free, [], []⟩
def d_ties_family : He.DefD := ⟨("ties_family", none), "ties_family", "ties_family", defArgs s_ties_family, defBody s_ties_family, defScope s_ties_family, [], []⟩
def d_Joined_init : He.DefD := ⟨("Joined", some "__init__"), "__init__", "Joined.__init__", defArgs s_Joined_init, defBody s_Joined_init, defScope s_Joined_init, [], []⟩
def d_Joined_count_free : He.DefD := ⟨("Joined", some "count_free"), "count_free", "Joined.count_free", defArgs s_Joined_count_free, defBody s_Joined_count_free, defScope s_Joined_count_free, [], []⟩
def d_Short_init : He.DefD := ⟨("Short", some "__init__"), "__init__", "Short.__init__", defArgs s_Short_init, defBody s_Short_init, defScope s_Short_init, [], []⟩
def d_Short_count_free : He.DefD := ⟨("Short", some "count_free"), "count_free", "Short.count_free", defArgs s_Short_count_free, defBody s_Short_count_free, defScope s_Short_count_free, [], []⟩
def d_AllFree_count_free : He.DefD := ⟨("AllFree", some "count_free"), "count_free", "AllFree.count_free", defArgs s_AllFree_count_free, defBody s_AllFree_count_free, defScope s_AllFree_count_free, [], []⟩
def d_Renamed_init : He.DefD := ⟨("Renamed", some "__init__"), "__init__", "Renamed.__init__", defArgs s_Renamed_init, defBody s_Renamed_init, defScope s_Renamed_init, [], []⟩
def d_Renamed_count_free : He.DefD := ⟨("Renamed", some "count_free"), "count_free", "Renamed.count_free", defArgs s_Renamed_count_free, defBody s_Renamed_count_free, defScope s_Renamed_count_free, [], []⟩
def d_joined : He.DefD := ⟨("joined", none), "joined", "joined", defArgs s_joined, defBody s_joined, defScope s_joined, [], []⟩
def d_cut_short : He.DefD := ⟨("cut_short", none), "cut_short", "cut_short", defArgs s_cut_short, defBody s_cut_short, defScope s_cut_short, [], []⟩
def d_named : He.DefD := ⟨("named", none), "named", "named", defArgs s_named, defBody s_named, defScope s_named, [], []⟩
def d_free_on : He.DefD := ⟨("free_on", none), "free_on", "free_on", defArgs s_free_on, defBody s_free_on, defScope s_free_on, [], []⟩
def d_law_source : He.DefD := ⟨("_law_source", none), "_law_source", "_law_source", defArgs s_law_source, defBody s_law_source, defScope s_law_source, [], []⟩
def d_law_draw : He.DefD := ⟨("_law_draw", none), "_law_draw", "_law_draw", defArgs s_law_draw, defBody s_law_draw, defScope s_law_draw, [], []⟩
def d_law_pick : He.DefD := ⟨("_law_pick", none), "_law_pick", "_law_pick", defArgs s_law_pick, defBody s_law_pick, defScope s_law_pick, [], []⟩
def d_law_names : He.DefD := ⟨("_law_names", none), "_law_names", "_law_names", defArgs s_law_names, defBody s_law_names, defScope s_law_names, [], []⟩
def d_law_shuffled : He.DefD := ⟨("_law_shuffled", none), "_law_shuffled", "_law_shuffled", defArgs s_law_shuffled, defBody s_law_shuffled, defScope s_law_shuffled, [], []⟩
def d_law_lots : He.DefD := ⟨("_law_lots", none), "_law_lots", "_law_lots", defArgs s_law_lots, defBody s_law_lots, defScope s_law_lots, [], []⟩
def d_law_rings_round : He.DefD := ⟨("_law_rings_round", none), "_law_rings_round", "_law_rings_round", defArgs s_law_rings_round, defBody s_law_rings_round, defScope s_law_rings_round, [], []⟩
def d_law_apart : He.DefD := ⟨("_law_apart", none), "_law_apart", "_law_apart", defArgs s_law_apart, defBody s_law_apart, defScope s_law_apart, [], []⟩
def d_law_web_drawn : He.DefD := ⟨("_law_web_drawn", none), "_law_web_drawn", "_law_web_drawn", defArgs s_law_web_drawn, defBody s_law_web_drawn, defScope s_law_web_drawn, [], []⟩
def d_law_bases : He.DefD := ⟨("_law_bases", none), "_law_bases", "_law_bases", defArgs s_law_bases, defBody s_law_bases, defScope s_law_bases, [], []⟩
def d_law_all_lots : He.DefD := ⟨("_law_all_lots", none), "_law_all_lots", "_law_all_lots", defArgs s_law_all_lots, defBody s_law_all_lots, defScope s_law_all_lots, [], []⟩
def d_law_world : He.DefD := ⟨("_law_world", none), "_law_world", "_law_world", defArgs s_law_world, defBody s_law_world, defScope s_law_world, [], []⟩
def d_law_rank : He.DefD := ⟨("_law_rank", none), "_law_rank", "_law_rank", defArgs s_law_rank, defBody s_law_rank, defScope s_law_rank, [], []⟩
def d_law_ranks : He.DefD := ⟨("_law_ranks", none), "_law_ranks", "_law_ranks", defArgs s_law_ranks, defBody s_law_ranks, defScope s_law_ranks, [], []⟩
def d_law_fewest : He.DefD := ⟨("_law_fewest", none), "_law_fewest", "_law_fewest", defArgs s_law_fewest, defBody s_law_fewest, defScope s_law_fewest, [], []⟩
def d_law_most : He.DefD := ⟨("_law_most", none), "_law_most", "_law_most", defArgs s_law_most, defBody s_law_most, defScope s_law_most, [], []⟩
def d_law_like : He.DefD := ⟨("_law_like", none), "_law_like", "_law_like", defArgs s_law_like, defBody s_law_like, defScope s_law_like, [], []⟩
def d_law_sided : He.DefD := ⟨("_law_sided", none), "_law_sided", "_law_sided", defArgs s_law_sided, defBody s_law_sided, defScope s_law_sided, [], []⟩
def d_law : He.DefD := ⟨("law", none), "law", "law", defArgs s_law, defBody s_law, defScope s_law, [], []⟩
def fn : List He.DefD := [d_is_integer, d_is_name, d_need_things, d_need_number, d_need_names, d_less, d_with_thing, d_Family_init, d_Family_rank_of, d_Family_len, d_Family_contains, d_Family_stuck, d_ring_within, d_Listed_init, d_Listed_count_free, d_need_bases, d_changes, d_listed, d_Parting_init, d_Parting_in_the_way, d_Parting_shift, d_Parting_place, d_Parting_told, d_all_placed, d_most_placed, d_copies, d_need_lots, d_covered, d_packed, d_fewest, d_most, d_need_places, d_is_pair, d_Web_init, d_Web_marks, d_Web_count_free, d_ties_family, d_Joined_init, d_Joined_count_free, d_Short_init, d_Short_count_free, d_AllFree_count_free, d_Renamed_init, d_Renamed_count_free, d_joined, d_cut_short, d_named, d_free_on, d_law_source, d_law_draw, d_law_pick, d_law_names, d_law_shuffled, d_law_lots, d_law_rings_round, d_law_apart, d_law_web_drawn, d_law_bases, d_law_all_lots, d_law_world, d_law_rank, d_law_ranks, d_law_fewest, d_law_most, d_law_like, d_law_sided, d_law]
def fa0 : List He.Fa := [.glo "is_integer", .glo "is_name", .glo "need_things", .glo "need_number", .glo "need_names", .glo "less", .glo "with_thing", .glo "Family", .glo "ring_within", .glo "Listed", .glo "need_bases", .glo "changes", .glo "listed", .glo "Parting", .glo "all_placed", .glo "most_placed", .glo "copies", .glo "need_lots", .glo "covered", .glo "packed", .glo "fewest", .glo "most", .glo "need_places", .glo "is_pair", .glo "Web", .glo "ties_family", .glo "Joined", .glo "Short", .glo "AllFree", .glo "Renamed"]
def fa1 : List He.Fa := [.glo "joined", .glo "cut_short", .glo "named", .glo "free_on", .glo "_law_source", .glo "_law_draw", .glo "_law_pick", .glo "_law_names", .glo "_law_shuffled", .glo "_law_lots", .glo "_law_rings_round", .glo "_law_apart", .glo "_law_web_drawn", .glo "_law_bases", .glo "_law_all_lots", .glo "_law_world", .glo "_law_rank", .glo "_law_ranks", .glo "_law_fewest", .glo "_law_most", .glo "_law_like", .glo "_law_sided", .glo "law", .free "len", .free "range", .free "sorted", .free "list", .free "dict", .free "tuple", .free "set"]
def fa2 : List He.Fa := [.free "all", .free "any", .free "max", .free "min", .free "int", .free "isinstance", .free "enumerate", .free "bool", .free "str", .str "LETTERS" "abcdefghijklmnopqrstuvwxyz", .int "MOST_LETTERS" 8, .int "MOST_THINGS" 24, .int "MOST_TOLD" 10, .int "MOST_LOTS" 24, .int "MOST_PLACES" 16, .cls "Family", .noat "Family" "names", .noat "Family" "source", .noat "Family" "counted", .meth "Family" "rank_of", .meth "Family" "__len__", .meth "Family" "__contains__", .meth "Family" "stuck", .mkr "Family", .cls "Listed", .noat "Listed" "lots", .meth "Listed" "count_free", .mkr "Listed", .cls "Parting", .noat "Parting" "families"]
def fa3 : List He.Fa := [.noat "Parting" "lots", .meth "Parting" "in_the_way", .meth "Parting" "shift", .meth "Parting" "place", .meth "Parting" "told", .mkr "Parting", .cls "Web", .noat "Web" "known", .noat "Web" "ending", .meth "Web" "marks", .meth "Web" "count_free", .mkr "Web", .cls "Joined", .noat "Joined" "first", .noat "Joined" "second", .meth "Joined" "count_free", .mkr "Joined", .cls "Short", .noat "Short" "inner", .noat "Short" "cap", .meth "Short" "count_free", .mkr "Short", .cls "AllFree", .meth "AllFree" "count_free", .cls "Renamed", .noat "Renamed" "inner", .noat "Renamed" "olds", .meth "Renamed" "count_free", .mkr "Renamed", .keep "AllFree"]
def fa : List He.Fa := fa0 ++ fa1 ++ fa2 ++ fa3
/-- one thing more of the top: AllFree has no __init__ of its own -/
def exK (K : PySem.W.Frag) : Bool := PySem.W.makesIn K (He.ga K "AllFree") && He.eqO (PySem.W.findIn K (.ref (He.ga K "AllFree")) "__init__") (some (some (.builtin "object.__init__")))
/-- what the top leaves -/
structure TX (K : PySem.W.Frag) (mg : Str → Option Value) : Prop where
  c : He.SaysD fa fn K
  z : exK K = true
  g : ∀ {x : Str}, (He.Fa.glo x).ok K = true → mg x = some (.ref (He.ga K x))
  f : ∀ {x : Str}, (He.Fa.free x).ok K = true → mg x = none
  i : ∀ {x : Str} {i : Int}, (He.Fa.int x i).ok K = true → ∃ t, mg x = some (.int i t)
  s : ∀ {x z : Str}, (He.Fa.str x z).ok K = true → ∃ t, mg x = some (.str z t)
theorem tx_of {K : PySem.W.Frag} {mg : Str → Option Value} {h : Heap} (X : K.In h) (G : h.Ns mainGlobals mg) (c : He.SaysD fa fn K) (z : exK K = true) : TX K mg :=
  ⟨c, z, fun e => He.glo_ok X G e, fun e => He.free_ok X G e, fun e => He.int_ok X G e, fun e => He.str_ok X G e⟩
section
variable {K : PySem.W.Frag} {mg : Str → Option Value}
theorem TX.g_is_integer (T : TX K mg) : mg "is_integer" = some (.ref (He.ga K "is_integer")) := T.g (T.c.fact 0 (f := .glo "is_integer") rfl)
theorem TX.g_is_name (T : TX K mg) : mg "is_name" = some (.ref (He.ga K "is_name")) := T.g (T.c.fact 1 (f := .glo "is_name") rfl)
theorem TX.g_need_things (T : TX K mg) : mg "need_things" = some (.ref (He.ga K "need_things")) := T.g (T.c.fact 2 (f := .glo "need_things") rfl)
theorem TX.g_need_number (T : TX K mg) : mg "need_number" = some (.ref (He.ga K "need_number")) := T.g (T.c.fact 3 (f := .glo "need_number") rfl)
theorem TX.g_need_names (T : TX K mg) : mg "need_names" = some (.ref (He.ga K "need_names")) := T.g (T.c.fact 4 (f := .glo "need_names") rfl)
theorem TX.g_less (T : TX K mg) : mg "less" = some (.ref (He.ga K "less")) := T.g (T.c.fact 5 (f := .glo "less") rfl)
theorem TX.g_with_thing (T : TX K mg) : mg "with_thing" = some (.ref (He.ga K "with_thing")) := T.g (T.c.fact 6 (f := .glo "with_thing") rfl)
theorem TX.g_Family (T : TX K mg) : mg "Family" = some (.ref (He.ga K "Family")) := T.g (T.c.fact 7 (f := .glo "Family") rfl)
theorem TX.g_ring_within (T : TX K mg) : mg "ring_within" = some (.ref (He.ga K "ring_within")) := T.g (T.c.fact 8 (f := .glo "ring_within") rfl)
theorem TX.g_Listed (T : TX K mg) : mg "Listed" = some (.ref (He.ga K "Listed")) := T.g (T.c.fact 9 (f := .glo "Listed") rfl)
theorem TX.g_need_bases (T : TX K mg) : mg "need_bases" = some (.ref (He.ga K "need_bases")) := T.g (T.c.fact 10 (f := .glo "need_bases") rfl)
theorem TX.g_changes (T : TX K mg) : mg "changes" = some (.ref (He.ga K "changes")) := T.g (T.c.fact 11 (f := .glo "changes") rfl)
theorem TX.g_listed (T : TX K mg) : mg "listed" = some (.ref (He.ga K "listed")) := T.g (T.c.fact 12 (f := .glo "listed") rfl)
theorem TX.g_Parting (T : TX K mg) : mg "Parting" = some (.ref (He.ga K "Parting")) := T.g (T.c.fact 13 (f := .glo "Parting") rfl)
theorem TX.g_all_placed (T : TX K mg) : mg "all_placed" = some (.ref (He.ga K "all_placed")) := T.g (T.c.fact 14 (f := .glo "all_placed") rfl)
theorem TX.g_most_placed (T : TX K mg) : mg "most_placed" = some (.ref (He.ga K "most_placed")) := T.g (T.c.fact 15 (f := .glo "most_placed") rfl)
theorem TX.g_copies (T : TX K mg) : mg "copies" = some (.ref (He.ga K "copies")) := T.g (T.c.fact 16 (f := .glo "copies") rfl)
theorem TX.g_need_lots (T : TX K mg) : mg "need_lots" = some (.ref (He.ga K "need_lots")) := T.g (T.c.fact 17 (f := .glo "need_lots") rfl)
theorem TX.g_covered (T : TX K mg) : mg "covered" = some (.ref (He.ga K "covered")) := T.g (T.c.fact 18 (f := .glo "covered") rfl)
theorem TX.g_packed (T : TX K mg) : mg "packed" = some (.ref (He.ga K "packed")) := T.g (T.c.fact 19 (f := .glo "packed") rfl)
theorem TX.g_fewest (T : TX K mg) : mg "fewest" = some (.ref (He.ga K "fewest")) := T.g (T.c.fact 20 (f := .glo "fewest") rfl)
theorem TX.g_most (T : TX K mg) : mg "most" = some (.ref (He.ga K "most")) := T.g (T.c.fact 21 (f := .glo "most") rfl)
theorem TX.g_need_places (T : TX K mg) : mg "need_places" = some (.ref (He.ga K "need_places")) := T.g (T.c.fact 22 (f := .glo "need_places") rfl)
theorem TX.g_is_pair (T : TX K mg) : mg "is_pair" = some (.ref (He.ga K "is_pair")) := T.g (T.c.fact 23 (f := .glo "is_pair") rfl)
theorem TX.g_Web (T : TX K mg) : mg "Web" = some (.ref (He.ga K "Web")) := T.g (T.c.fact 24 (f := .glo "Web") rfl)
theorem TX.g_ties_family (T : TX K mg) : mg "ties_family" = some (.ref (He.ga K "ties_family")) := T.g (T.c.fact 25 (f := .glo "ties_family") rfl)
theorem TX.g_Joined (T : TX K mg) : mg "Joined" = some (.ref (He.ga K "Joined")) := T.g (T.c.fact 26 (f := .glo "Joined") rfl)
theorem TX.g_Short (T : TX K mg) : mg "Short" = some (.ref (He.ga K "Short")) := T.g (T.c.fact 27 (f := .glo "Short") rfl)
theorem TX.g_AllFree (T : TX K mg) : mg "AllFree" = some (.ref (He.ga K "AllFree")) := T.g (T.c.fact 28 (f := .glo "AllFree") rfl)
theorem TX.g_Renamed (T : TX K mg) : mg "Renamed" = some (.ref (He.ga K "Renamed")) := T.g (T.c.fact 29 (f := .glo "Renamed") rfl)
theorem TX.g_joined (T : TX K mg) : mg "joined" = some (.ref (He.ga K "joined")) := T.g (T.c.fact 30 (f := .glo "joined") rfl)
theorem TX.g_cut_short (T : TX K mg) : mg "cut_short" = some (.ref (He.ga K "cut_short")) := T.g (T.c.fact 31 (f := .glo "cut_short") rfl)
theorem TX.g_named (T : TX K mg) : mg "named" = some (.ref (He.ga K "named")) := T.g (T.c.fact 32 (f := .glo "named") rfl)
theorem TX.g_free_on (T : TX K mg) : mg "free_on" = some (.ref (He.ga K "free_on")) := T.g (T.c.fact 33 (f := .glo "free_on") rfl)
theorem TX.g_law_source (T : TX K mg) : mg "_law_source" = some (.ref (He.ga K "_law_source")) := T.g (T.c.fact 34 (f := .glo "_law_source") rfl)
theorem TX.g_law_draw (T : TX K mg) : mg "_law_draw" = some (.ref (He.ga K "_law_draw")) := T.g (T.c.fact 35 (f := .glo "_law_draw") rfl)
theorem TX.g_law_pick (T : TX K mg) : mg "_law_pick" = some (.ref (He.ga K "_law_pick")) := T.g (T.c.fact 36 (f := .glo "_law_pick") rfl)
theorem TX.g_law_names (T : TX K mg) : mg "_law_names" = some (.ref (He.ga K "_law_names")) := T.g (T.c.fact 37 (f := .glo "_law_names") rfl)
theorem TX.g_law_shuffled (T : TX K mg) : mg "_law_shuffled" = some (.ref (He.ga K "_law_shuffled")) := T.g (T.c.fact 38 (f := .glo "_law_shuffled") rfl)
theorem TX.g_law_lots (T : TX K mg) : mg "_law_lots" = some (.ref (He.ga K "_law_lots")) := T.g (T.c.fact 39 (f := .glo "_law_lots") rfl)
theorem TX.g_law_rings_round (T : TX K mg) : mg "_law_rings_round" = some (.ref (He.ga K "_law_rings_round")) := T.g (T.c.fact 40 (f := .glo "_law_rings_round") rfl)
theorem TX.g_law_apart (T : TX K mg) : mg "_law_apart" = some (.ref (He.ga K "_law_apart")) := T.g (T.c.fact 41 (f := .glo "_law_apart") rfl)
theorem TX.g_law_web_drawn (T : TX K mg) : mg "_law_web_drawn" = some (.ref (He.ga K "_law_web_drawn")) := T.g (T.c.fact 42 (f := .glo "_law_web_drawn") rfl)
theorem TX.g_law_bases (T : TX K mg) : mg "_law_bases" = some (.ref (He.ga K "_law_bases")) := T.g (T.c.fact 43 (f := .glo "_law_bases") rfl)
theorem TX.g_law_all_lots (T : TX K mg) : mg "_law_all_lots" = some (.ref (He.ga K "_law_all_lots")) := T.g (T.c.fact 44 (f := .glo "_law_all_lots") rfl)
theorem TX.g_law_world (T : TX K mg) : mg "_law_world" = some (.ref (He.ga K "_law_world")) := T.g (T.c.fact 45 (f := .glo "_law_world") rfl)
theorem TX.g_law_rank (T : TX K mg) : mg "_law_rank" = some (.ref (He.ga K "_law_rank")) := T.g (T.c.fact 46 (f := .glo "_law_rank") rfl)
theorem TX.g_law_ranks (T : TX K mg) : mg "_law_ranks" = some (.ref (He.ga K "_law_ranks")) := T.g (T.c.fact 47 (f := .glo "_law_ranks") rfl)
theorem TX.g_law_fewest (T : TX K mg) : mg "_law_fewest" = some (.ref (He.ga K "_law_fewest")) := T.g (T.c.fact 48 (f := .glo "_law_fewest") rfl)
theorem TX.g_law_most (T : TX K mg) : mg "_law_most" = some (.ref (He.ga K "_law_most")) := T.g (T.c.fact 49 (f := .glo "_law_most") rfl)
theorem TX.g_law_like (T : TX K mg) : mg "_law_like" = some (.ref (He.ga K "_law_like")) := T.g (T.c.fact 50 (f := .glo "_law_like") rfl)
theorem TX.g_law_sided (T : TX K mg) : mg "_law_sided" = some (.ref (He.ga K "_law_sided")) := T.g (T.c.fact 51 (f := .glo "_law_sided") rfl)
theorem TX.g_law (T : TX K mg) : mg "law" = some (.ref (He.ga K "law")) := T.g (T.c.fact 52 (f := .glo "law") rfl)
theorem TX.f_len (T : TX K mg) : mg "len" = none := T.f (T.c.fact 53 (f := .free "len") rfl)
theorem TX.f_range (T : TX K mg) : mg "range" = none := T.f (T.c.fact 54 (f := .free "range") rfl)
theorem TX.f_sorted (T : TX K mg) : mg "sorted" = none := T.f (T.c.fact 55 (f := .free "sorted") rfl)
theorem TX.f_list (T : TX K mg) : mg "list" = none := T.f (T.c.fact 56 (f := .free "list") rfl)
theorem TX.f_dict (T : TX K mg) : mg "dict" = none := T.f (T.c.fact 57 (f := .free "dict") rfl)
theorem TX.f_tuple (T : TX K mg) : mg "tuple" = none := T.f (T.c.fact 58 (f := .free "tuple") rfl)
theorem TX.f_set (T : TX K mg) : mg "set" = none := T.f (T.c.fact 59 (f := .free "set") rfl)
theorem TX.f_all (T : TX K mg) : mg "all" = none := T.f (T.c.fact 60 (f := .free "all") rfl)
theorem TX.f_any (T : TX K mg) : mg "any" = none := T.f (T.c.fact 61 (f := .free "any") rfl)
theorem TX.f_max (T : TX K mg) : mg "max" = none := T.f (T.c.fact 62 (f := .free "max") rfl)
theorem TX.f_min (T : TX K mg) : mg "min" = none := T.f (T.c.fact 63 (f := .free "min") rfl)
theorem TX.f_int (T : TX K mg) : mg "int" = none := T.f (T.c.fact 64 (f := .free "int") rfl)
theorem TX.f_isinstance (T : TX K mg) : mg "isinstance" = none := T.f (T.c.fact 65 (f := .free "isinstance") rfl)
theorem TX.f_enumerate (T : TX K mg) : mg "enumerate" = none := T.f (T.c.fact 66 (f := .free "enumerate") rfl)
theorem TX.f_bool (T : TX K mg) : mg "bool" = none := T.f (T.c.fact 67 (f := .free "bool") rfl)
theorem TX.f_str (T : TX K mg) : mg "str" = none := T.f (T.c.fact 68 (f := .free "str") rfl)
theorem TX.c_LETTERS (T : TX K mg) : ∃ t, mg "LETTERS" = some (.str "abcdefghijklmnopqrstuvwxyz" t) := T.s (T.c.fact 69 (f := .str "LETTERS" "abcdefghijklmnopqrstuvwxyz") rfl)
theorem TX.c_MOST_LETTERS (T : TX K mg) : ∃ t, mg "MOST_LETTERS" = some (.int 8 t) := T.i (T.c.fact 70 (f := .int "MOST_LETTERS" 8) rfl)
theorem TX.c_MOST_THINGS (T : TX K mg) : ∃ t, mg "MOST_THINGS" = some (.int 24 t) := T.i (T.c.fact 71 (f := .int "MOST_THINGS" 24) rfl)
theorem TX.c_MOST_TOLD (T : TX K mg) : ∃ t, mg "MOST_TOLD" = some (.int 10 t) := T.i (T.c.fact 72 (f := .int "MOST_TOLD" 10) rfl)
theorem TX.c_MOST_LOTS (T : TX K mg) : ∃ t, mg "MOST_LOTS" = some (.int 24 t) := T.i (T.c.fact 73 (f := .int "MOST_LOTS" 24) rfl)
theorem TX.c_MOST_PLACES (T : TX K mg) : ∃ t, mg "MOST_PLACES" = some (.int 16 t) := T.i (T.c.fact 74 (f := .int "MOST_PLACES" 16) rfl)
theorem TX.cl_Family (T : TX K mg) : Cls K (He.ga K "Family") := He.cls_ok (T.c.fact 75 (f := .cls "Family") rfl)
theorem TX.na_Family_names (T : TX K mg) : NoAttr K (He.ga K "Family") "names" := He.noat_ok (T.c.fact 76 (f := .noat "Family" "names") rfl)
theorem TX.na_Family_source (T : TX K mg) : NoAttr K (He.ga K "Family") "source" := He.noat_ok (T.c.fact 77 (f := .noat "Family" "source") rfl)
theorem TX.na_Family_counted (T : TX K mg) : NoAttr K (He.ga K "Family") "counted" := He.noat_ok (T.c.fact 78 (f := .noat "Family" "counted") rfl)
theorem TX.mt_Family_rank_of (T : TX K mg) : Meth K (He.ga K "Family") "rank_of" (He.ma K (He.ga K "Family") "rank_of") := He.meth_ok (T.c.fact 79 (f := .meth "Family" "rank_of") rfl)
theorem TX.mt_Family_len (T : TX K mg) : Meth K (He.ga K "Family") "__len__" (He.ma K (He.ga K "Family") "__len__") := He.meth_ok (T.c.fact 80 (f := .meth "Family" "__len__") rfl)
theorem TX.mt_Family_contains (T : TX K mg) : Meth K (He.ga K "Family") "__contains__" (He.ma K (He.ga K "Family") "__contains__") := He.meth_ok (T.c.fact 81 (f := .meth "Family" "__contains__") rfl)
theorem TX.mt_Family_stuck (T : TX K mg) : Meth K (He.ga K "Family") "stuck" (He.ma K (He.ga K "Family") "stuck") := He.meth_ok (T.c.fact 82 (f := .meth "Family" "stuck") rfl)
theorem TX.mk_Family (T : TX K mg) : Mk K (He.ga K "Family") (He.ma K (He.ga K "Family") "__init__") := He.mkr_ok (T.c.fact 83 (f := .mkr "Family") rfl)
theorem TX.cl_Listed (T : TX K mg) : Cls K (He.ga K "Listed") := He.cls_ok (T.c.fact 84 (f := .cls "Listed") rfl)
theorem TX.na_Listed_lots (T : TX K mg) : NoAttr K (He.ga K "Listed") "lots" := He.noat_ok (T.c.fact 85 (f := .noat "Listed" "lots") rfl)
theorem TX.mt_Listed_count_free (T : TX K mg) : Meth K (He.ga K "Listed") "count_free" (He.ma K (He.ga K "Listed") "count_free") := He.meth_ok (T.c.fact 86 (f := .meth "Listed" "count_free") rfl)
theorem TX.mk_Listed (T : TX K mg) : Mk K (He.ga K "Listed") (He.ma K (He.ga K "Listed") "__init__") := He.mkr_ok (T.c.fact 87 (f := .mkr "Listed") rfl)
theorem TX.cl_Parting (T : TX K mg) : Cls K (He.ga K "Parting") := He.cls_ok (T.c.fact 88 (f := .cls "Parting") rfl)
theorem TX.na_Parting_families (T : TX K mg) : NoAttr K (He.ga K "Parting") "families" := He.noat_ok (T.c.fact 89 (f := .noat "Parting" "families") rfl)
theorem TX.na_Parting_lots (T : TX K mg) : NoAttr K (He.ga K "Parting") "lots" := He.noat_ok (T.c.fact 90 (f := .noat "Parting" "lots") rfl)
theorem TX.mt_Parting_in_the_way (T : TX K mg) : Meth K (He.ga K "Parting") "in_the_way" (He.ma K (He.ga K "Parting") "in_the_way") := He.meth_ok (T.c.fact 91 (f := .meth "Parting" "in_the_way") rfl)
theorem TX.mt_Parting_shift (T : TX K mg) : Meth K (He.ga K "Parting") "shift" (He.ma K (He.ga K "Parting") "shift") := He.meth_ok (T.c.fact 92 (f := .meth "Parting" "shift") rfl)
theorem TX.mt_Parting_place (T : TX K mg) : Meth K (He.ga K "Parting") "place" (He.ma K (He.ga K "Parting") "place") := He.meth_ok (T.c.fact 93 (f := .meth "Parting" "place") rfl)
theorem TX.mt_Parting_told (T : TX K mg) : Meth K (He.ga K "Parting") "told" (He.ma K (He.ga K "Parting") "told") := He.meth_ok (T.c.fact 94 (f := .meth "Parting" "told") rfl)
theorem TX.mk_Parting (T : TX K mg) : Mk K (He.ga K "Parting") (He.ma K (He.ga K "Parting") "__init__") := He.mkr_ok (T.c.fact 95 (f := .mkr "Parting") rfl)
theorem TX.cl_Web (T : TX K mg) : Cls K (He.ga K "Web") := He.cls_ok (T.c.fact 96 (f := .cls "Web") rfl)
theorem TX.na_Web_known (T : TX K mg) : NoAttr K (He.ga K "Web") "known" := He.noat_ok (T.c.fact 97 (f := .noat "Web" "known") rfl)
theorem TX.na_Web_ending (T : TX K mg) : NoAttr K (He.ga K "Web") "ending" := He.noat_ok (T.c.fact 98 (f := .noat "Web" "ending") rfl)
theorem TX.mt_Web_marks (T : TX K mg) : Meth K (He.ga K "Web") "marks" (He.ma K (He.ga K "Web") "marks") := He.meth_ok (T.c.fact 99 (f := .meth "Web" "marks") rfl)
theorem TX.mt_Web_count_free (T : TX K mg) : Meth K (He.ga K "Web") "count_free" (He.ma K (He.ga K "Web") "count_free") := He.meth_ok (T.c.fact 100 (f := .meth "Web" "count_free") rfl)
theorem TX.mk_Web (T : TX K mg) : Mk K (He.ga K "Web") (He.ma K (He.ga K "Web") "__init__") := He.mkr_ok (T.c.fact 101 (f := .mkr "Web") rfl)
theorem TX.cl_Joined (T : TX K mg) : Cls K (He.ga K "Joined") := He.cls_ok (T.c.fact 102 (f := .cls "Joined") rfl)
theorem TX.na_Joined_first (T : TX K mg) : NoAttr K (He.ga K "Joined") "first" := He.noat_ok (T.c.fact 103 (f := .noat "Joined" "first") rfl)
theorem TX.na_Joined_second (T : TX K mg) : NoAttr K (He.ga K "Joined") "second" := He.noat_ok (T.c.fact 104 (f := .noat "Joined" "second") rfl)
theorem TX.mt_Joined_count_free (T : TX K mg) : Meth K (He.ga K "Joined") "count_free" (He.ma K (He.ga K "Joined") "count_free") := He.meth_ok (T.c.fact 105 (f := .meth "Joined" "count_free") rfl)
theorem TX.mk_Joined (T : TX K mg) : Mk K (He.ga K "Joined") (He.ma K (He.ga K "Joined") "__init__") := He.mkr_ok (T.c.fact 106 (f := .mkr "Joined") rfl)
theorem TX.cl_Short (T : TX K mg) : Cls K (He.ga K "Short") := He.cls_ok (T.c.fact 107 (f := .cls "Short") rfl)
theorem TX.na_Short_inner (T : TX K mg) : NoAttr K (He.ga K "Short") "inner" := He.noat_ok (T.c.fact 108 (f := .noat "Short" "inner") rfl)
theorem TX.na_Short_cap (T : TX K mg) : NoAttr K (He.ga K "Short") "cap" := He.noat_ok (T.c.fact 109 (f := .noat "Short" "cap") rfl)
theorem TX.mt_Short_count_free (T : TX K mg) : Meth K (He.ga K "Short") "count_free" (He.ma K (He.ga K "Short") "count_free") := He.meth_ok (T.c.fact 110 (f := .meth "Short" "count_free") rfl)
theorem TX.mk_Short (T : TX K mg) : Mk K (He.ga K "Short") (He.ma K (He.ga K "Short") "__init__") := He.mkr_ok (T.c.fact 111 (f := .mkr "Short") rfl)
theorem TX.cl_AllFree (T : TX K mg) : Cls K (He.ga K "AllFree") := He.cls_ok (T.c.fact 112 (f := .cls "AllFree") rfl)
theorem TX.mt_AllFree_count_free (T : TX K mg) : Meth K (He.ga K "AllFree") "count_free" (He.ma K (He.ga K "AllFree") "count_free") := He.meth_ok (T.c.fact 113 (f := .meth "AllFree" "count_free") rfl)
theorem TX.cl_Renamed (T : TX K mg) : Cls K (He.ga K "Renamed") := He.cls_ok (T.c.fact 114 (f := .cls "Renamed") rfl)
theorem TX.na_Renamed_inner (T : TX K mg) : NoAttr K (He.ga K "Renamed") "inner" := He.noat_ok (T.c.fact 115 (f := .noat "Renamed" "inner") rfl)
theorem TX.na_Renamed_olds (T : TX K mg) : NoAttr K (He.ga K "Renamed") "olds" := He.noat_ok (T.c.fact 116 (f := .noat "Renamed" "olds") rfl)
theorem TX.mt_Renamed_count_free (T : TX K mg) : Meth K (He.ga K "Renamed") "count_free" (He.ma K (He.ga K "Renamed") "count_free") := He.meth_ok (T.c.fact 117 (f := .meth "Renamed" "count_free") rfl)
theorem TX.mk_Renamed (T : TX K mg) : Mk K (He.ga K "Renamed") (He.ma K (He.ga K "Renamed") "__init__") := He.mkr_ok (T.c.fact 118 (f := .mkr "Renamed") rfl)
theorem TX.kp_AllFree (T : TX K mg) : PySem.W.keepIn K (.ref (He.ga K "AllFree")) = true := He.keep_ok (T.c.fact 119 (f := .keep "AllFree") rfl)
end
/-- a def of the text keeps a promise -/
structure FOk (P : Program) (w : World) (K : PySem.W.Frag) (mg : Str → Option Value) (base : Heap) (k : Nat) (p : Str × Option Str) (ps : List Str) (sp : Sp) : Prop where
  ex : ∃ fd, FnOk P w K mg base CX0 k (He.fAd K p) fd ps sp ∧ Binds K fd ps [] ∧ PySem.W.keepIn K (.ref (He.fAd K p)) = true
section
variable {P : Program} {w : World} {K : PySem.W.Frag} {mg : Str → Option Value} {base : Heap}
theorem FOk.mono {j k : Nat} {p : Str × Option Str} {ps : List Str} {sp : Sp} (F : FOk P w K mg base j p ps sp) (h : j ≤ k) : FOk P w K mg base k p ps sp := by
  obtain ⟨fd, a, b, c⟩ := F.ex
  exact ⟨fd, a.mono h, b, c⟩
theorem FOk.imp {k : Nat} {p : Str × Option Str} {ps : List Str} {sp sp' : Sp} (F : FOk P w K mg base k p ps sp) (h : ∀ vs H Q E, sp' vs H Q E → sp vs H Q E) : FOk P w K mg base k p ps sp' := by
  obtain ⟨fd, a, b, c⟩ := F.ex
  exact ⟨fd, a.imp h, b, c⟩
/-- THE RULE for a def: its body as a term of rules, and the reading of that term -/
theorem TX.fn (T : TX K mg) {N ps : List Str} {k : Nat} {sp : Sp} (i : Nat) {d : He.DefD} (hd : BF.fn[i]? = some d) (h1 : d.dfl = []) (h2 : d.kwd = []) (S : FnScope N ps d.scope) (len : ∀ vs H Q E, sp vs H Q E → vs.length = ps.length)
    (hb : ∀ (kV doc pm : Value) (an : Option Addr) (cdv ct : Value) (us : List Value), us.length = ps.length → bindArgs (PySem.W.fnOf d.name d.qual d.params d.body d.scope .none kV doc pm an cdv ct) ⟨us, []⟩ = pure (ps.zip us))
    (hbody : ∀ (cdv : Value) (A : Around) (outer : List Env) (s : Shared) (H : Hp) (vs : List V) (Q : VK) (E : XK), Room k (A.deeper (envOfC d.qual d.scope s.heap.objs.size (He.fAd K d.at_) cdv)) → sp vs H Q E →
      ∃ t, PSs (cxOf CX0 P w K mg base N d.qual d.scope (He.fAd K d.at_) cdv A outer s H E).nox d.body t ∧ t { nx := fun _ H' => Q .non H', rt := Q } (start N vs) H) : FOk P w K mg base (k + 1) d.at_ ps sp := by
  obtain ⟨fd, F⟩ := T.c.def_ i hd
  have e1 : d.dvs K = [] := by unfold He.DefD.dvs; rw [h1]; rfl
  have e2 : d.kws K = [] := by unfold He.DefD.kws; rw [h2]; rfl
  rw [e1, e2] at F
  refine ⟨fd, F.ok S len fun cdv A outer s H vs Q E hr h => ?_, F.bindsN hb, F.kp⟩
  obtain ⟨t, a, b⟩ := hbody cdv A outer s H vs Q E hr h
  exact ⟨t, a.nox, b⟩
end
section
variable {X : Cx}
theorem pe_cl {k : Nat} {x : Str} {ps : List Str} {sp : Sp} {e : Expr} {es : List Expr} {t : TA} {p pos : Pos} (G : FOk X.prog X.w X.K X.mg X.base k (x, none) ps sp) (hr : Room k X.A) (hm : X.mg x = some (.ref (He.ga X.K x))) (ha : PA X (e :: es) t) (hg : Gl X x := by rfl)
    (hdb : (x == ("__debug__" : Str)) = false := by decide) (he : starEach (e :: es) X.env = (false, eval e X.env) :: starEach es X.env := by rfl) (hpl : (backTo pos (starEach es X.env)).any (·.1) = false := by rfl) :
    PE X (.Call (.Name x p) (e :: es) [] pos) (tCall sp [] E0 t) := by
  obtain ⟨fd, a, b, c⟩ := G.ex
  exact pe_call a hr hg hm c b .nil pass0 ha hdb he hpl
theorem pe_mk {k : Nat} {x : Str} {ps : List Str} {sp : Sp} {e : Expr} {es : List Expr} {t : TA} {p pos : Pos} (M : Mk X.K (He.ga X.K x) (He.ma X.K (He.ga X.K x) "__init__")) (G : FOk X.prog X.w X.K X.mg X.base k (x, some "__init__") ps sp) (hr : Room (k + 1) X.A) (hm : X.mg x = some (.ref (He.ga X.K x))) (ha : PA X (e :: es) t) (hg : Gl X x := by rfl)
    (hdb : (x == ("__debug__" : Str)) = false := by decide) (he : starEach (e :: es) X.env = (false, eval e X.env) :: starEach es X.env := by rfl) (hpl : (backTo pos (starEach es X.env)).any (·.1) = false := by rfl) :
    PE X (.Call (.Name x p) (e :: es) [] pos) (tMake (He.ga X.K x) sp [] E0 t) := by
  obtain ⟨fd, a, b, c⟩ := G.ex
  exact pe_make M a hr hg hm b .nil pass0 ha hdb he hpl
end
end BF
set_option Elab.async false
set_option linter.all false
set_option maxRecDepth 100000
set_option maxHeartbeats 4000000
/-! The head: the top run in the kernel, what it leaves told by names. -/
namespace BFH
open PySem PySem.Spec PyProof.Rows L2
def nm0 : List PySem.Str := ["_wall", "LotError", "BadThings", "BadLot", "NoThing", "SameThing", "TooMany", "BadNumber", "BadBases", "BrokenBases", "BadNames", "BadPlaces", "BadTies", "LETTERS", "MOST_LETTERS", "MOST_THINGS", "is_integer", "is_name", "first_wrong", "need_things", "need_lot", "need_number", "need_names", "less", "with_thing", "MOST_TOLD", "Family", "greedy", "ring_within", "Listed"]
def nm1 : List PySem.Str := ["need_bases", "changes", "listed", "MOST_LOTS", "Parting", "all_placed", "most_placed", "copies", "need_lots", "covered", "packed", "fewest", "most", "MOST_PLACES", "need_places", "is_pair", "Web", "ties_family", "Joined", "Short", "AllFree", "Renamed", "joined", "cut_short", "named", "free_on", "_law_source", "_law_draw", "_law_pick", "_law_names"]
def nm2 : List PySem.Str := ["_law_shuffled", "_law_lots", "_law_rings_round", "_law_apart", "_law_web_drawn", "_law_bases", "_law_all_lots", "_law_world", "_law_rank", "_law_ranks", "_law_fewest", "_law_most", "_law_like", "_law_sided"]
def nms : List PySem.Str := nm0 ++ nm1 ++ nm2
abbrev R : PySem.W.OpenRow := PySem.W.OpenLaw.row PySem.Challenge.rw_bothfree_k64_whole_fewest_and_most
/-- what the objects at these addresses name -/
def nxt (g : Addr → Option Obj) (as : List Addr) : List Addr := as.flatMap fun a => match g a with
  | some o => He.refsD o
  | none => []
def lv (g : Addr → Option Obj) : Nat → List Addr
  | 0 => [mainGlobals]
  | n + 1 => nxt g (lv g n)
/-- the addresses within four steps of the module's names, level by level (no look for doubles: that took most of the memory) -/
def asF (g : Addr → Option Obj) : List Addr := lv g 0 ++ (lv g 1 ++ (lv g 2 ++ (lv g 3 ++ lv g 4)))
def see (g : Addr → Option Obj) : He.AlD × Bool := (He.obsD BF.fa BF.fn (He.frG g (asF g)), BF.exK (He.frG g (asF g)))
def hookB : PySem.W.Hook where
  α := He.AlD × Bool
  obs := fun s => see s.heap.get?
  val := fun _ => (He.valD BF.fn, true)
  says := fun _ h => ∃ K : PySem.W.Frag, K.In h ∧ He.SaysD BF.fa BF.fn K ∧ BF.exK K = true
  of := fun _ s e => ⟨He.frG s.heap.get? (asF s.heap.get?), He.frG_in, congrArg (fun z : He.AlD × Bool => z.1) e, congrArg (fun z : He.AlD × Bool => z.2) e⟩
  keeps := fun _ _ _ ⟨K, hK, c⟩ k => ⟨K, PySem.W.Frag.In.keeps hK k, c⟩
def ob (s : PySem.W.SharedT) : He.AlD × Bool := see (HandSHeadRun.getT s)
theorem ob_eq (s : PySem.W.SharedT) : ob s = hookB.obs s.abs := by
  have e : HandSHeadRun.getT s = s.abs.heap.get? := funext (HandSHeadRun.getT_eq s)
  unfold ob
  rw [e]
  rfl
set_option maxHeartbeats 0 in
theorem run (w : World) : HandSHeadRun.RunEq R (PySem.W.view R.prog [81]) hookB ob 20000 nms w := by
  intro os
  kernel_rfl
end BFH
set_option linter.all false
/-! Lots as tests over a list E of things; the laws of free lots and ranks. -/
namespace BF
section
variable {α : Type} [DecidableEq α]

def crd (E : List α) (p : α → Bool) : Nat := (E.filter p).length
def pin (p : α → Bool) (x : α) : α → Bool := fun y => p y || decide (y = x)
def pdel (p : α → Bool) (x : α) : α → Bool := fun y => p y && !decide (y = x)
def pand (p q : α → Bool) : α → Bool := fun y => p y && q y
def pdif (p q : α → Bool) : α → Bool := fun y => p y && !q y
def por (p q : α → Bool) : α → Bool := fun y => p y || q y
def Sub (E : List α) (p q : α → Bool) : Prop := ∀ x ∈ E, p x = true → q x = true
def EqOn (E : List α) (p q : α → Bool) : Prop := ∀ x ∈ E, p x = q x

theorem pin_t {p : α → Bool} {x y : α} : pin p x y = true ↔ p y = true ∨ y = x := by simp [pin]
theorem pin_f {p : α → Bool} {x y : α} : pin p x y = false ↔ p y = false ∧ y ≠ x := by simp [pin]
theorem pdel_t {p : α → Bool} {x y : α} : pdel p x y = true ↔ p y = true ∧ y ≠ x := by simp [pdel]
theorem pdel_f {p : α → Bool} {x y : α} : pdel p x y = false ↔ p y = false ∨ y = x := by
  unfold pdel
  by_cases h : y = x <;> simp [h]
theorem pand_t {p q : α → Bool} {y : α} : pand p q y = true ↔ p y = true ∧ q y = true := by simp [pand]
theorem pdif_t {p q : α → Bool} {y : α} : pdif p q y = true ↔ p y = true ∧ q y = false := by simp [pdif]
theorem por_t {p q : α → Bool} {y : α} : por p q y = true ↔ p y = true ∨ q y = true := by simp [por]

theorem filter_congr' {E : List α} {p q : α → Bool} (h : EqOn E p q) : E.filter p = E.filter q := List.filter_congr h
theorem crd_congr {E : List α} {p q : α → Bool} (h : EqOn E p q) : crd E p = crd E q := by
  unfold crd; rw [filter_congr' h]
theorem crd_nil {p : α → Bool} : crd [] p = 0 := rfl
theorem crd_cons {E : List α} {x : α} {p : α → Bool} : crd (x :: E) p = (if p x = true then 1 else 0) + crd E p := by
  unfold crd
  rw [List.filter_cons]
  split
  · simp; omega
  · simp
theorem crd_mono : ∀ {E : List α} {p q : α → Bool}, Sub E p q → crd E p ≤ crd E q
  | [], _, _, _ => Nat.le_refl _
  | x :: E, p, q, h => by
    have ih := crd_mono (E := E) (p := p) (q := q) fun y hy => h y (List.mem_cons_of_mem _ hy)
    have hx := h x List.mem_cons_self
    rw [crd_cons, crd_cons]
    by_cases e : p x = true
    · rw [if_pos e, if_pos (hx e)]; omega
    · rw [if_neg e]; omega
/-- as many as a greater lot: the same -/
theorem crd_full : ∀ {E : List α} {p q : α → Bool}, Sub E p q → crd E q ≤ crd E p → Sub E q p
  | [], _, _, _, _ => fun x hx => by simp at hx
  | x :: E, p, q, h, hc => by
    have h' : Sub E p q := fun y hy => h y (List.mem_cons_of_mem _ hy)
    have hx := h x List.mem_cons_self
    have m := crd_mono h'
    rw [crd_cons, crd_cons] at hc
    intro y hy
    by_cases e : p x = true
    · rw [if_pos e, if_pos (hx e)] at hc
      rcases List.mem_cons.mp hy with rfl | hy
      · exact fun _ => e
      · exact crd_full h' (by omega) y hy
    · rw [if_neg e] at hc
      by_cases e2 : q x = true
      · rw [if_pos e2] at hc; omega
      · rw [if_neg e2] at hc
        rcases List.mem_cons.mp hy with rfl | hy
        · exact fun z => absurd z e2
        · exact crd_full h' (by omega) y hy
theorem crd_split (q : α → Bool) : ∀ {E : List α} {p : α → Bool}, crd E p = crd E (pand p q) + crd E (pdif p q)
  | [], _ => rfl
  | x :: E, p => by
    have ih := crd_split q (E := E) (p := p)
    rw [crd_cons, crd_cons, crd_cons, ih]
    unfold pand pdif
    cases p x <;> cases q x <;> simp <;> omega
theorem crd_none {E : List α} {p : α → Bool} (h : ∀ x ∈ E, p x = false) : crd E p = 0 := by
  unfold crd
  rw [List.length_eq_zero_iff, List.filter_eq_nil_iff]
  intro x hx
  rw [h x hx]; simp
theorem crd_pos {E : List α} {p : α → Bool} {x : α} (hx : x ∈ E) (h : p x = true) : 0 < crd E p := by
  unfold crd
  exact List.length_pos_of_mem (List.mem_filter.mpr ⟨hx, h⟩)
theorem crd_all {E : List α} {p : α → Bool} (h : ∀ x ∈ E, p x = true) : crd E p = E.length := by
  unfold crd
  rw [List.filter_eq_self.mpr h]
theorem crd_le {E : List α} {p : α → Bool} : crd E p ≤ E.length := List.length_filter_le _ _
theorem crd_one : ∀ {E : List α} {x : α}, E.Nodup → x ∈ E → crd E (fun y => decide (y = x)) = 1
  | [], _, _, h => by simp at h
  | y :: E, x, nd, h => by
    obtain ⟨n1, n2⟩ := List.nodup_cons.mp nd
    rw [crd_cons]
    by_cases e : y = x
    · subst e
      rw [if_pos (by simp), crd_none fun z hz => ?_]
      simp
      intro q; subst q; exact n1 hz
    · rw [if_neg (by simp [e])]
      rcases List.mem_cons.mp h with q | q
      · exact absurd q.symm e
      · rw [crd_one n2 q]
theorem crd_pin {E : List α} {p : α → Bool} {x : α} (nd : E.Nodup) (hx : x ∈ E) (h : p x = false) : crd E (pin p x) = crd E p + 1 := by
  rw [crd_split (fun y => decide (y = x)) (p := pin p x)]
  have e1 : crd E (pand (pin p x) fun y => decide (y = x)) = 1 := by
    rw [← crd_one nd hx]
    refine crd_congr fun y _ => ?_
    unfold pand pin
    by_cases e : y = x <;> simp [e]
  have e2 : crd E (pdif (pin p x) fun y => decide (y = x)) = crd E p := crd_congr fun y _ => by
    unfold pdif pin
    by_cases e : y = x
    · subst e; simp [h]
    · simp [e]
  omega
theorem crd_pdel {E : List α} {p : α → Bool} {x : α} (nd : E.Nodup) (hx : x ∈ E) (h : p x = true) : crd E (pdel p x) + 1 = crd E p := by
  rw [← crd_pin (p := pdel p x) nd hx (pdel_f.mpr (.inr rfl))]
  refine crd_congr fun y _ => ?_
  unfold pin pdel
  by_cases e : y = x
  · subst e; simp [h]
  · simp [e]
/-- a greater lot has a thing that the lesser one has not -/
theorem crd_lt {E : List α} {p q : α → Bool} (h : crd E p < crd E q) : ∃ x ∈ E, q x = true ∧ p x = false := by
  apply Classical.byContradiction
  intro n
  have s : Sub E q p := fun x hx hq => by
    cases e : p x with
    | true => rfl
    | false => exact absurd ⟨x, hx, hq, e⟩ n
  have := crd_mono s
  omega

/-! ### families -/
abbrev Fr (E : List α) (r : List α → Nat) (p : α → Bool) : Prop := r (E.filter p) = crd E p
abbrev rho (E : List α) (r : List α → Nat) (p : α → Bool) : Nat := r (E.filter p)

structure Mat (E : List α) (r : List α → Nat) : Prop where
  nd : E.Nodup
  hered : ∀ p q, Sub E p q → Fr E r q → Fr E r p
  exch : ∀ p q, Fr E r p → Fr E r q → crd E p < crd E q → ∃ x ∈ E, q x = true ∧ p x = false ∧ Fr E r (pin p x)
  base : ∀ p, ∃ q, Sub E q p ∧ Fr E r q ∧ crd E q = rho E r p
  top : ∀ p q, Sub E q p → Fr E r q → crd E q ≤ rho E r p

variable {E : List α} {r : List α → Nat}
theorem Fr.eqOn {p q : α → Bool} (h : EqOn E p q) (f : Fr E r p) : Fr E r q := by
  unfold Fr at *
  rw [← filter_congr' h, ← crd_congr h]; exact f
theorem rho_eqOn {p q : α → Bool} (h : EqOn E p q) : rho E r p = rho E r q := by
  unfold rho; rw [filter_congr' h]
theorem Mat.le (m : Mat E r) (p : α → Bool) : rho E r p ≤ crd E p := by
  obtain ⟨q, h1, _, h3⟩ := m.base p
  rw [← h3]; exact crd_mono h1
theorem Mat.mono (m : Mat E r) {p q : α → Bool} (h : Sub E p q) : rho E r p ≤ rho E r q := by
  obtain ⟨b, h1, h2, h3⟩ := m.base p
  rw [← h3]
  exact m.top q b (fun x hx hb => h x hx (h1 x hx hb)) h2
theorem Mat.step (m : Mat E r) {p : α → Bool} {x : α} (hx : x ∈ E) : rho E r (pin p x) ≤ rho E r p + 1 := by
  obtain ⟨b, h1, h2, h3⟩ := m.base (pin p x)
  have s : Sub E (pdel b x) p := fun y hy hb => by
    obtain ⟨b1, b2⟩ := pdel_t.mp hb
    rcases pin_t.mp (h1 y hy b1) with q | q
    · exact q
    · exact absurd q b2
  have f : Fr E r (pdel b x) := m.hered _ b (fun y _ hb => (pdel_t.mp hb).1) h2
  have t := m.top p _ s f
  cases e : b x with
  | true => have := crd_pdel m.nd hx e; omega
  | false =>
    have : crd E (pdel b x) = crd E b := crd_congr fun y _ => by
      unfold pdel
      by_cases q : y = x
      · subst q; simp [e]
      · simp [q]
    omega
theorem Mat.free_of (m : Mat E r) {p : α → Bool} (h : crd E p ≤ rho E r p) : Fr E r p := Nat.le_antisymm (m.le p) h
/-- a free lot grows to a greatest one -/
theorem Mat.grow (m : Mat E r) {q : α → Bool} : ∀ (n : Nat) {p : α → Bool}, rho E r q - crd E p = n → Fr E r p → Sub E p q → ∃ b, Sub E p b ∧ Sub E b q ∧ Fr E r b ∧ crd E b = rho E r q
  | 0, p, hn, f, s => by
    have := m.top q p s f
    exact ⟨p, fun _ _ h => h, s, f, by omega⟩
  | n + 1, p, hn, f, s => by
    obtain ⟨c, c1, c2, c3⟩ := m.base q
    obtain ⟨x, hx, x1, x2, x3⟩ := m.exch p c f c2 (by omega)
    have s' : Sub E (pin p x) q := fun y hy h => by
      rcases pin_t.mp h with h | rfl
      · exact s y hy h
      · exact c1 _ hy x1
    have e := crd_pin m.nd hx x2
    obtain ⟨b, b1, b2, b3, b4⟩ := m.grow n (p := pin p x) (by omega) x3 s'
    exact ⟨b, fun y hy h => b1 y hy (pin_t.mpr (.inl h)), b2, b3, b4⟩
theorem Mat.extend (m : Mat E r) {p q : α → Bool} (f : Fr E r p) (s : Sub E p q) : ∃ b, Sub E p b ∧ Sub E b q ∧ Fr E r b ∧ crd E b = rho E r q := m.grow _ rfl f s
/-- a free lot of things of p that no thing of p can join has the rank of p -/
theorem Mat.max (m : Mat E r) {p q : α → Bool} (f : Fr E r q) (s : Sub E q p) (h : ∀ x ∈ E, p x = true → q x = false → ¬ Fr E r (pin q x)) : crd E q = rho E r p := by
  refine Nat.le_antisymm (m.top p q s f) ?_
  apply Classical.byContradiction
  intro n
  obtain ⟨b, b1, b2, b3⟩ := m.base p
  obtain ⟨x, hx, x1, x2, x3⟩ := m.exch q b f b2 (by omega)
  exact h x hx (b1 x hx x1) x2 x3
theorem Mat.empty (m : Mat E r) : Fr E r fun _ => false := by
  have h1 := m.le fun _ => false
  have h2 : crd E (fun _ : α => false) = 0 := crd_none fun _ _ => rfl
  unfold Fr
  unfold rho at h1
  omega

/-! ### a list that is a sublist of E, as a test -/
def mem (l : List α) : α → Bool := fun x => decide (x ∈ l)
theorem mem_t {l : List α} {x : α} : mem l x = true ↔ x ∈ l := by simp [mem]
theorem mem_f {l : List α} {x : α} : mem l x = false ↔ x ∉ l := by simp [mem]
theorem filter_sub : ∀ {E l : List α}, E.Nodup → l.Sublist E → E.filter (mem l) = l
  | _, _, _, .slnil => rfl
  | y :: E, l, nd, .cons _ s => by
    obtain ⟨n1, n2⟩ := List.nodup_cons.mp nd
    have : y ∉ l := fun h => n1 (s.subset h)
    rw [List.filter_cons, if_neg (by simp [mem, this])]
    exact filter_sub n2 s
  | y :: E, _, nd, .cons_cons (l₁ := l) _ s => by
    obtain ⟨n1, n2⟩ := List.nodup_cons.mp nd
    rw [List.filter_cons, if_pos (by simp [mem])]
    congr 1
    rw [← filter_sub n2 s]
    refine List.filter_congr fun x hx => ?_
    have e1 : x ≠ y := fun e => n1 (e ▸ hx)
    rw [filter_sub n2 s]
    unfold mem
    simp [e1]
theorem crd_sub {E l : List α} (nd : E.Nodup) (s : l.Sublist E) : crd E (mem l) = l.length := by
  unfold crd; rw [filter_sub nd s]
end
end BF
set_option linter.all false
/-! Lots of things, one in each of k places: ways by which a thing can be put in, and what shows that it cannot. -/
namespace BF
section
variable {α : Type} [DecidableEq α] {E : List α} {r : List α → Nat}

abbrev Sts (α : Type) := Nat → α → Bool
def Ready (E : List α) (r : List α → Nat) (S : Sts α) (i : Nat) (x : α) : Prop := S i x = false ∧ Fr E r (pin (S i) x)
def Arc (E : List α) (r : List α → Nat) (S : Sts α) (i : Nat) (x y : α) : Prop :=
  S i x = false ∧ S i y = true ∧ ¬ Fr E r (pin (S i) x) ∧ Fr E r (pdel (pin (S i) x) y)
structure GoodS (E : List α) (r : List α → Nat) (k : Nat) (S : Sts α) : Prop where
  fr : ∀ i, i < k → Fr E r (S i)
  dis : ∀ i j x, i < k → j < k → x ∈ E → S i x = true → S j x = true → i = j

theorem Mat.delA (m : Mat E r) {L : α → Bool} {x y z : α} (hz : z ∈ E) (hx : x ∈ E) (hy : y ∈ E) (f : Fr E r L) (lx : L x = false) (lz : L z = true) (ly : L y = true) (yz : y ≠ z)
    (nz : ¬ Fr E r (pdel (pin L x) z)) (h : Fr E r (pdel (pin (pdel L z) x) y)) : Fr E r (pdel (pin L x) y) := by
  have xy : y ≠ x := fun e => by rw [e, lx] at ly; cases ly
  have xz : z ≠ x := fun e => by rw [e, lx] at lz; cases lz
  have c1 : crd E (pdel (pin (pdel L z) x) y) + 1 = crd E (pin (pdel L z) x) := crd_pdel m.nd hy (pin_t.mpr (.inl (pdel_t.mpr ⟨ly, yz⟩)))
  have c2 : crd E (pin (pdel L z) x) = crd E (pdel L z) + 1 := crd_pin m.nd hx (pdel_f.mpr (.inl lx))
  have c3 : crd E (pdel L z) + 1 = crd E L := crd_pdel m.nd hz lz
  obtain ⟨w, hw, w1, w2, w3⟩ := m.exch _ L h f (by omega)
  have hwz : w = z ∨ w = y := by
    rcases pdel_f.mp w2 with q | q
    · obtain ⟨q, _⟩ := pin_f.mp q
      rcases pdel_f.mp q with q | q
      · rw [w1] at q; cases q
      · exact .inl q
    · exact .inr q
  rcases hwz with rfl | rfl
  · refine w3.eqOn fun u _ => ?_
    unfold pin pdel
    by_cases e1 : u = w
    · subst e1; simp [lz, Ne.symm yz]
    · by_cases e2 : u = y
      · subst e2; simp [e1]
      · simp [e1, e2]
  · refine absurd (w3.eqOn fun u _ => ?_) nz
    unfold pin pdel
    by_cases e1 : u = w
    · subst e1; simp [ly, yz]
    · by_cases e2 : u = z
      · subst e2; simp [e1, xz]
      · simp [e1, e2]
theorem Mat.insB (m : Mat E r) {L : α → Bool} {x y z : α} (hz : z ∈ E) (hx : x ∈ E) (hy : y ∈ E) (f : Fr E r (pin L z)) (lz : L z = false) (lx : L x = false) (xz : x ≠ z) (nx : ¬ Fr E r (pin L x)) (ly : L y = true)
    (h : Fr E r (pdel (pin L x) y)) : Fr E r (pdel (pin (pin L z) x) y) := by
  have xy : y ≠ x := fun e => by rw [e, lx] at ly; cases ly
  have yz : y ≠ z := fun e => by rw [e, lz] at ly; cases ly
  have c1 : crd E (pdel (pin L x) y) + 1 = crd E (pin L x) := crd_pdel m.nd hy (pin_t.mpr (.inl ly))
  have c2 : crd E (pin L x) = crd E L + 1 := crd_pin m.nd hx lx
  have c3 : crd E (pin L z) = crd E L + 1 := crd_pin m.nd hz lz
  obtain ⟨w, hw, w1, w2, w3⟩ := m.exch _ _ h f (by omega)
  have hwz : w = z ∨ w = y := by
    rcases pin_t.mp w1 with q | q
    · rcases pdel_f.mp w2 with q2 | q2
      · obtain ⟨q2, _⟩ := pin_f.mp q2
        rw [q] at q2; cases q2
      · exact .inr q2
    · exact .inl q
  rcases hwz with rfl | rfl
  · refine w3.eqOn fun u _ => ?_
    unfold pin pdel
    by_cases e1 : u = w
    · subst e1; simp [lz, Ne.symm yz]
    · by_cases e2 : u = y
      · subst e2; simp [e1]
      · simp [e1, e2]
  · refine absurd (w3.eqOn fun u _ => ?_) nx
    unfold pin pdel
    by_cases e1 : u = w
    · subst e1; simp [ly, yz]
    · simp [e1]

/-! ### a way: the last step first -/
def ArcChain (E : List α) (r : List α → Nat) (S : Sts α) : List (α × Nat) → Prop
  | a :: b :: l => Arc E r S b.2 b.1 a.1 ∧ ArcChain E r S (b :: l)
  | _ => True
def NoJump (E : List α) (r : List α → Nat) (k : Nat) (S : Sts α) : List (α × Nat) → Prop
  | a :: b :: l => (∀ c ∈ l, ∀ j, j < k → ¬ Arc E r S j c.1 a.1) ∧ NoJump E r k S (b :: l)
  | _ => True
structure Path (E : List α) (r : List α → Nat) (k : Nat) (S : Sts α) (a : α × Nat) (l : List (α × Nat)) : Prop where
  ins : ∀ c ∈ a :: l, c.1 ∈ E ∧ c.2 < k
  nd : ((a :: l).map (·.1)).Nodup
  rdy : Ready E r S a.2 a.1
  arcs : ArcChain E r S (a :: l)
  nrdy : ∀ c ∈ l, ∀ j, j < k → ¬ Ready E r S j c.1
  njmp : NoJump E r k S (a :: l)
  out : ∀ x, (((a :: l).map (·.1)).getLast? = some x) → ∀ j, j < k → S j x = false
/-- x goes from the place j into the place i -/
def mv (S : Sts α) (x : α) (j i : Nat) : Sts α := fun t => if t = i then pin (S i) x else if t = j then pdel (S j) x else S t
def putS (S : Sts α) (x : α) (i : Nat) : Sts α := fun t => if t = i then pin (S i) x else S t

section
variable {k : Nat} {S : Sts α}
theorem mv_i {x : α} {i j : Nat} : mv S x j i i = pin (S i) x := by unfold mv; rw [if_pos rfl]
theorem mv_j {x : α} {i j : Nat} (h : j ≠ i) : mv S x j i j = pdel (S j) x := by unfold mv; rw [if_neg h, if_pos rfl]
theorem mv_o {x : α} {i j t : Nat} (h : t ≠ i) (h2 : t ≠ j) : mv S x j i t = S t := by unfold mv; rw [if_neg h, if_neg h2]
theorem Mat.mvGood (m : Mat E r) (G : GoodS E r k S) {x : α} {i j : Nat} (hx : x ∈ E) (hi : i < k) (hj : j < k) (hij : j ≠ i) (sj : S j x = true) (R : Ready E r S i x) : GoodS E r k (mv S x j i) where
  fr := fun t ht => by
    by_cases h1 : t = i
    · subst h1; rw [mv_i]; exact R.2
    · by_cases h2 : t = j
      · subst h2; rw [mv_j hij]
        exact m.hered _ (S t) (fun y _ h => (pdel_t.mp h).1) (G.fr t ht)
      · rw [mv_o h1 h2]; exact G.fr t ht
  dis := fun t u y ht hu hy h1 h2 => by
    have key : ∀ t, t < k → mv S x j i t y = true → (y = x ∧ t = i) ∨ (y ≠ x ∧ S t y = true) := by
      intro t ht h
      by_cases e1 : t = i
      · subst e1; rw [mv_i] at h
        by_cases e : y = x
        · exact .inl ⟨e, rfl⟩
        · rcases pin_t.mp h with h | h
          · exact .inr ⟨e, h⟩
          · exact absurd h e
      · by_cases e2 : t = j
        · subst e2; rw [mv_j hij] at h
          obtain ⟨a, b⟩ := pdel_t.mp h
          exact .inr ⟨b, a⟩
        · rw [mv_o e1 e2] at h
          refine .inr ⟨fun e => ?_, h⟩
          subst e
          exact e2 (G.dis _ _ _ ht hj hx h sj)
    rcases key t ht h1 with ⟨a, rfl⟩ | ⟨a, b⟩
    · rcases key u hu h2 with ⟨_, q⟩ | ⟨q, _⟩
      · exact q.symm
      · exact absurd a q
    · rcases key u hu h2 with ⟨q, _⟩ | ⟨_, q⟩
      · exact absurd q a
      · exact G.dis _ _ _ ht hu hy b q
theorem Mat.putGood (m : Mat E r) (G : GoodS E r k S) {x : α} {i : Nat} (hi : i < k) (ho : ∀ j, j < k → S j x = false) (R : Ready E r S i x) : GoodS E r k (putS S x i) where
  fr := fun t ht => by
    unfold putS
    split
    · exact R.2
    · exact G.fr t ht
  dis := fun t u y ht hu hy h1 h2 => by
    have key : ∀ t, t < k → putS S x i t y = true → (y = x ∧ t = i) ∨ (y ≠ x ∧ S t y = true) := by
      intro t ht h
      unfold putS at h
      by_cases e1 : t = i
      · rw [if_pos e1] at h
        by_cases e : y = x
        · exact .inl ⟨e, e1⟩
        · rcases pin_t.mp h with h | h
          · rw [← e1] at h; exact .inr ⟨e, h⟩
          · exact absurd h e
      · rw [if_neg e1] at h
        refine .inr ⟨fun e => ?_, h⟩
        subst e
        rw [ho t ht] at h; cases h
    rcases key t ht h1 with ⟨a, rfl⟩ | ⟨a, b⟩
    · rcases key u hu h2 with ⟨_, q⟩ | ⟨q, _⟩
      · exact q.symm
      · exact absurd a q
    · rcases key u hu h2 with ⟨q, _⟩ | ⟨_, q⟩
      · exact absurd q a
      · exact G.dis _ _ _ ht hu hy b q

/-- the facts of the thing x that moves from j to i, against an earlier thing z of the way that is not next to it -/
theorem arc_back (m : Mat E r) (G : GoodS E r k S) {x : α} {i j : Nat} (hx : x ∈ E) (hi : i < k) (hj : j < k) (hij : j ≠ i) (sj : S j x = true) (R : Ready E r S i x)
    {z y : α} {t : Nat} (ht : t < k) (hz : z ∈ E) (hy : y ∈ E) (zx : z ≠ x) (yx : y ≠ x) (nz : ∀ j, j < k → ¬ Ready E r S j z) (na : ∀ j, j < k → ¬ Arc E r S j z x) :
    Arc E r (mv S x j i) t z y ↔ Arc E r S t z y := by
  by_cases h1 : t = i
  · subst h1
    unfold Arc
    rw [mv_i]
    constructor
    · rintro ⟨a1, a2, a3, a4⟩
      obtain ⟨b1, _⟩ := pin_f.mp a1
      have b2 : S t y = true := by
        rcases pin_t.mp a2 with q | q
        · exact q
        · exact absurd q yx
      have b3 : ¬ Fr E r (pin (S t) z) := fun f => nz t ht ⟨b1, f⟩
      refine ⟨b1, b2, b3, m.hered _ _ (fun u _ h => ?_) a4⟩
      obtain ⟨c1, c2⟩ := pdel_t.mp h
      refine pdel_t.mpr ⟨?_, c2⟩
      rcases pin_t.mp c1 with c1 | c1
      · exact pin_t.mpr (.inl (pin_t.mpr (.inl c1)))
      · exact pin_t.mpr (.inr c1)
    · rintro ⟨a1, a2, a3, a4⟩
      refine ⟨pin_f.mpr ⟨a1, zx⟩, pin_t.mpr (.inl a2), fun f => a3 (m.hered _ _ (fun u _ h => ?_) f), m.insB hx hz hy R.2 R.1 a1 zx a3 a2 a4⟩
      rcases pin_t.mp h with c1 | c1
      · exact pin_t.mpr (.inl (pin_t.mpr (.inl c1)))
      · exact pin_t.mpr (.inr c1)
  · by_cases h2 : t = j
    · subst h2
      unfold Arc
      rw [mv_j hij]
      have nx : S t z = false → ¬ Fr E r (pdel (pin (S t) z) x) := fun a f => na t ht ⟨a, sj, fun q => nz t ht ⟨a, q⟩, f⟩
      constructor
      · rintro ⟨a1, a2, a3, a4⟩
        have b1 : S t z = false := by
          rcases pdel_f.mp a1 with q | q
          · exact q
          · exact absurd q zx
        obtain ⟨b2, _⟩ := pdel_t.mp a2
        exact ⟨b1, b2, fun f => nz t ht ⟨b1, f⟩, m.delA hx hz hy (G.fr t ht) b1 sj b2 yx (nx b1) a4⟩
      · rintro ⟨a1, a2, a3, a4⟩
        refine ⟨pdel_f.mpr (.inl a1), pdel_t.mpr ⟨a2, yx⟩, fun f => nx a1 (f.eqOn fun u _ => ?_), m.hered _ _ (fun u _ h => ?_) a4⟩
        · unfold pin pdel
          by_cases e1 : u = x
          · subst e1; simp [Ne.symm zx]
          · simp [e1]
        · obtain ⟨c1, c2⟩ := pdel_t.mp h
          refine pdel_t.mpr ⟨?_, c2⟩
          rcases pin_t.mp c1 with c1 | c1
          · exact pin_t.mpr (.inl (pdel_t.mp c1).1)
          · exact pin_t.mpr (.inr c1)
    · unfold Arc
      rw [mv_o h1 h2]
theorem rdy_back (m : Mat E r) (G : GoodS E r k S) {x : α} {i j : Nat} (hij : j ≠ i) (sj : S j x = true)
    {z : α} (zx : z ≠ x) (nz : ∀ j, j < k → ¬ Ready E r S j z) (na : ∀ j, j < k → ¬ Arc E r S j z x) : ∀ t, t < k → ¬ Ready E r (mv S x j i) t z := by
  intro t ht
  by_cases h1 : t = i
  · subst h1
    unfold Ready
    rw [mv_i]
    rintro ⟨a1, a2⟩
    refine nz t ht ⟨(pin_f.mp a1).1, m.hered _ _ (fun u _ h => ?_) a2⟩
    rcases pin_t.mp h with c1 | c1
    · exact pin_t.mpr (.inl (pin_t.mpr (.inl c1)))
    · exact pin_t.mpr (.inr c1)
  · by_cases h2 : t = j
    · subst h2
      unfold Ready
      rw [mv_j hij]
      rintro ⟨a1, a2⟩
      have b1 : S t z = false := by
        rcases pdel_f.mp a1 with q | q
        · exact q
        · exact absurd q zx
      refine na t ht ⟨b1, sj, fun q => nz t ht ⟨b1, q⟩, a2.eqOn fun u _ => ?_⟩
      unfold pin pdel
      by_cases e1 : u = x
      · subst e1; simp [Ne.symm zx]
      · simp [e1]
    · unfold Ready
      rw [mv_o h1 h2]
      exact nz t ht
/-- one step of the shift: the way without its last thing, behind the move -/
theorem Path.shift1 (m : Mat E r) (G : GoodS E r k S) {a b : α × Nat} {l : List (α × Nat)} (P : Path E r k S a (b :: l)) :
    GoodS E r k (mv S a.1 b.2 a.2) ∧ Path E r k (mv S a.1 b.2 a.2) b l ∧ S b.2 a.1 = true ∧ b.2 ≠ a.2 := by
  obtain ⟨hax, hai⟩ := P.ins a List.mem_cons_self
  obtain ⟨hbx, hbi⟩ := P.ins b (List.mem_cons_of_mem _ List.mem_cons_self)
  obtain ⟨A1, A2⟩ := (show Arc E r S b.2 b.1 a.1 ∧ ArcChain E r S (b :: l) from P.arcs)
  have sj : S b.2 a.1 = true := A1.2.1
  have hij : b.2 ≠ a.2 := fun e => by
    have := P.rdy.1
    rw [← e, sj] at this; cases this
  have nd : (a.1 :: (b :: l).map (·.1)).Nodup := P.nd
  obtain ⟨nd1, nd2⟩ := List.nodup_cons.mp nd
  obtain ⟨J1, J2⟩ := (show (∀ c ∈ l, ∀ j, j < k → ¬ Arc E r S j c.1 a.1) ∧ NoJump E r k S (b :: l) from P.njmp)
  have neA : ∀ c ∈ b :: l, c.1 ≠ a.1 := fun c hc e => nd1 (List.mem_map.mpr ⟨c, hc, e⟩)
  have G' := m.mvGood G hax hai hbi hij sj P.rdy
  have insB : ∀ c ∈ b :: l, c.1 ∈ E ∧ c.2 < k := fun c hc => P.ins c (List.mem_cons_of_mem _ hc)
  have nrd : ∀ c ∈ b :: l, ∀ j, j < k → ¬ Ready E r S j c.1 := P.nrdy
  have insL : ∀ c ∈ l, c.1 ∈ E ∧ c.2 < k := fun c hc => insB c (List.mem_cons_of_mem _ hc)
  have back : ∀ z ∈ l, ∀ y ∈ b :: l, ∀ t, t < k → (Arc E r (mv S a.1 b.2 a.2) t z.1 y.1 ↔ Arc E r S t z.1 y.1) := fun z hz y hy t ht =>
    arc_back m G hax hai hbi hij sj P.rdy ht (insL z hz).1 (insB y hy).1 (neA z (List.mem_cons_of_mem _ hz)) (neA y hy) (nrd z (List.mem_cons_of_mem _ hz)) (J1 z hz)
  refine ⟨G', ⟨insB, nd2, ⟨?_, ?_⟩, ?_, fun c hc => ?_, ?_, fun x hx j hj => ?_⟩, sj, hij⟩
  · rw [mv_j hij]; exact pdel_f.mpr (.inl A1.1)
  · rw [mv_j hij]
    refine A1.2.2.2.eqOn fun u _ => ?_
    have := neA b List.mem_cons_self
    unfold pin pdel
    by_cases e1 : u = a.1
    · subst e1; simp [Ne.symm this]
    · simp [e1]
  · -- the arcs
    have go : ∀ (c : α × Nat) (l' : List (α × Nat)), (∀ d ∈ l', d ∈ l) → c ∈ b :: l → ArcChain E r S (c :: l') → ArcChain E r (mv S a.1 b.2 a.2) (c :: l') := by
      intro c l'
      induction l' generalizing c with
      | nil => intro _ _ _; trivial
      | cons d l' ih =>
        intro hs hc h
        obtain ⟨h1, h2⟩ := (show Arc E r S d.2 d.1 c.1 ∧ ArcChain E r S (d :: l') from h)
        have hd := hs d List.mem_cons_self
        exact ⟨(back d hd c hc d.2 (insL d hd).2).mpr h1, ih d (fun e he => hs e (List.mem_cons_of_mem _ he)) (List.mem_cons_of_mem _ hd) h2⟩
    exact go b l (fun _ h => h) List.mem_cons_self A2
  · exact rdy_back m G hij sj (neA c (List.mem_cons_of_mem _ hc)) (nrd c (List.mem_cons_of_mem _ hc)) (J1 c hc)
  · have go : ∀ (c : α × Nat) (l' : List (α × Nat)), (∀ d ∈ l', d ∈ l) → c ∈ b :: l → NoJump E r k S (c :: l') → NoJump E r k (mv S a.1 b.2 a.2) (c :: l') := by
      intro c l'
      induction l' generalizing c with
      | nil => intro _ _ _; trivial
      | cons d l' ih =>
        intro hs hc h
        obtain ⟨h1, h2⟩ := (show (∀ e ∈ l', ∀ j, j < k → ¬ Arc E r S j e.1 c.1) ∧ NoJump E r k S (d :: l') from h)
        have hd := hs d List.mem_cons_self
        refine ⟨fun e he j hj q => h1 e he j hj ((back e (hs e (List.mem_cons_of_mem _ he)) c hc j hj).mp q), ih d (fun e he => hs e (List.mem_cons_of_mem _ he)) (List.mem_cons_of_mem _ hd) h2⟩
    exact go b l (fun _ h => h) List.mem_cons_self J2
  · have hx' : (((b :: l).map (·.1)).getLast? = some x) := hx
    have h0 := P.out x (by rw [List.map_cons, List.getLast?_cons]; rw [hx']; rfl) j hj
    have xa : x ≠ a.1 := fun e => nd1 (e ▸ (List.mem_of_getLast? hx'))
    by_cases h1 : j = a.2
    · subst h1; rw [mv_i]; exact pin_f.mpr ⟨h0, xa⟩
    · by_cases h2 : j = b.2
      · subst h2; rw [mv_j hij]; exact pdel_f.mpr (.inl h0)
      · rw [mv_o h1 h2]; exact h0
end
end
end BF
set_option linter.all false
/-! The search for a way, what it shows when it ends without one, sums over places. -/
namespace BF
section
variable {α : Type} [DecidableEq α] {E : List α} {r : List α → Nat} {k : Nat} {S : Sts α}

abbrev Came (α : Type) := List (α × Option (α × Nat))
structure BInv (E : List α) (r : List α → Nat) (k : Nat) (S : Sts α) (x0 : α) (C : Came α) (at_ idx : Nat) : Prop where
  hd : C[0]? = some (x0, none)
  tl : ∀ t e, 0 < t → C[t]? = some e → ∃ p j s q, e.2 = some (p, j) ∧ j < k ∧ s < t ∧ s ≤ at_ ∧ C[s]? = some (p, q) ∧ Arc E r S j p e.1
  nd : (C.map (·.1)).Nodup
  inE : ∀ e ∈ C, e.1 ∈ E
  out : ∀ j, j < k → S j x0 = false
  cl : ∀ s j e, C[s]? = some e → j < k → (s < at_ ∨ (s = at_ ∧ j < idx)) → ¬ Ready E r S j e.1 ∧ ∀ y, y ∈ E → Arc E r S j e.1 y → ∃ s' p j' q, s' ≤ s ∧ C[s']? = some (p, q) ∧ (y, some (p, j')) ∈ C

theorem nd_at {β : Type} {l : List β} (h : l.Nodup) {i j : Nat} {x : β} (a : l[i]? = some x) (b : l[j]? = some x) : i = j := by
  obtain ⟨h1, e1⟩ := List.getElem?_eq_some_iff.mp a
  obtain ⟨h2, e2⟩ := List.getElem?_eq_some_iff.mp b
  exact (List.getElem_inj h).mp (e1.trans e2.symm)
theorem key_pos {C : Came α} (nd : (C.map (·.1)).Nodup) {i j : Nat} {e d : α × Option (α × Nat)} (a : C[i]? = some e) (b : C[j]? = some d) (h : e.1 = d.1) : i = j :=
  nd_at nd (x := e.1) (by rw [List.getElem?_map, a]; rfl) (by rw [List.getElem?_map, b]; exact congrArg some h.symm)
theorem key_one {C : Came α} (nd : (C.map (·.1)).Nodup) {x : α} {u v : Option (α × Nat)} (a : (x, u) ∈ C) (b : (x, v) ∈ C) : u = v := by
  obtain ⟨i, hi⟩ := List.mem_iff_getElem?.mp a
  obtain ⟨j, hj⟩ := List.mem_iff_getElem?.mp b
  have e := key_pos nd hi hj rfl
  subst e
  rw [hi] at hj
  exact congrArg (·.2) (Option.some.inj hj)

theorem BInv.start (x0 : α) (hx : x0 ∈ E) (ho : ∀ j, j < k → S j x0 = false) : BInv E r k S x0 [(x0, none)] 0 0 where
  hd := rfl
  tl := fun t e h1 h2 => by
    have := (List.getElem?_eq_some_iff.mp h2).1
    simp at this; omega
  nd := by simp
  inE := fun e he => by simp at he; subst he; exact hx
  out := ho
  cl := fun s j e _ _ h => by rcases h with h | ⟨_, h⟩ <;> exact absurd h (Nat.not_lt_zero _)
theorem BInv.add {x0 : α} {C : Came α} {at_ idx j : Nat} {x y : α} {q : Option (α × Nat)} (B : BInv E r k S x0 C at_ idx) (hx : C[at_]? = some (x, q)) (hj : j < k) (hy : y ∈ E) (A : Arc E r S j x y) (n : y ∉ C.map (·.1)) :
    BInv E r k S x0 (C ++ [(y, some (x, j))]) at_ idx where
  hd := by
    have h := (List.getElem?_eq_some_iff.mp B.hd).1
    rw [List.getElem?_append_left h]; exact B.hd
  tl := fun t e h1 h2 => by
    have ha := (List.getElem?_eq_some_iff.mp hx).1
    by_cases ht : t < C.length
    · rw [List.getElem?_append_left ht] at h2
      obtain ⟨p, j', s, q', a, b, c, d, e', f⟩ := B.tl t e h1 h2
      exact ⟨p, j', s, q', a, b, c, d, by rw [List.getElem?_append_left (by omega)]; exact e', f⟩
    · have hl := (List.getElem?_eq_some_iff.mp h2).1
      rw [List.length_append, List.length_singleton] at hl
      have ht' : t = C.length := by omega
      subst ht'
      rw [List.getElem?_append_right (Nat.le_refl _), Nat.sub_self] at h2
      cases h2
      exact ⟨x, j, at_, q, rfl, hj, ha, Nat.le_refl _, by rw [List.getElem?_append_left ha]; exact hx, A⟩
  nd := by
    rw [List.map_append]
    refine List.nodup_append.mpr ⟨B.nd, by simp, fun a ha b hb e => ?_⟩
    simp at hb
    subst hb; subst e
    exact n ha
  inE := fun e he => by
    rcases List.mem_append.mp he with h | h
    · exact B.inE e h
    · simp at h; subst h; exact hy
  out := B.out
  cl := fun s j' e h1 h2 h3 => by
    have ha := (List.getElem?_eq_some_iff.mp hx).1
    have hs : s < C.length := by omega
    rw [List.getElem?_append_left hs] at h1
    obtain ⟨a, b⟩ := B.cl s j' e h1 h2 h3
    refine ⟨a, fun z hz A => ?_⟩
    obtain ⟨s', p, j'', q', c1, c2, c3⟩ := b z hz A
    exact ⟨s', p, j'', q', c1, by rw [List.getElem?_append_left (by omega)]; exact c2, List.mem_append_left _ c3⟩
theorem BInv.next {x0 : α} {C : Came α} {at_ idx : Nat} {x : α} {q : Option (α × Nat)} (B : BInv E r k S x0 C at_ idx) (hx : C[at_]? = some (x, q)) (hi : idx < k) (nr : ¬ Ready E r S idx x)
    (h : ∀ y, y ∈ E → Arc E r S idx x y → y ∈ C.map (·.1)) : BInv E r k S x0 C at_ (idx + 1) where
  hd := B.hd
  tl := B.tl
  nd := B.nd
  inE := B.inE
  out := B.out
  cl := fun s j e h1 h2 h3 => by
    by_cases c : s < at_ ∨ (s = at_ ∧ j < idx)
    · exact B.cl s j e h1 h2 c
    · have hs : s = at_ := by omega
      have hj : j = idx := by omega
      subst hs; subst hj
      rw [hx] at h1
      cases h1
      refine ⟨nr, fun y hy A => ?_⟩
      obtain ⟨e, he, rfl⟩ := List.mem_map.mp (h y hy A)
      obtain ⟨t, ht⟩ := List.mem_iff_getElem?.mp he
      have t0 : 0 < t := by
        apply Nat.pos_of_ne_zero
        rintro rfl
        rw [B.hd] at ht
        cases ht
        have := A.2.1
        rw [B.out _ hi] at this
        cases this
      obtain ⟨p, j, s', q', a, b, c, d, f, g⟩ := B.tl t e t0 ht
      refine ⟨s', p, j, q', d, f, ?_⟩
      rw [← a]; exact he
theorem BInv.row {x0 : α} {C : Came α} {at_ : Nat} (B : BInv E r k S x0 C at_ k) : BInv E r k S x0 C (at_ + 1) 0 where
  hd := B.hd
  tl := fun t e h1 h2 => by
    obtain ⟨p, j, s, q, a, b, c, d, f⟩ := B.tl t e h1 h2
    exact ⟨p, j, s, q, a, b, c, by omega, f⟩
  nd := B.nd
  inE := B.inE
  out := B.out
  cl := fun s j e h1 h2 h3 => B.cl s j e h1 h2 (by omega)

/-! ### the way back -/
def WayC (C : Came α) : α × Nat → List (α × Nat) → Prop
  | a, [] => (a.1, none) ∈ C
  | a, b :: l => (a.1, some b) ∈ C ∧ WayC C b l
theorem BInv.way {x0 : α} {C : Came α} {at_ idx : Nat} (B : BInv E r k S x0 C at_ idx) : ∀ (t : Nat) (x : α) (q : Option (α × Nat)) (i : Nat), t ≤ at_ → C[t]? = some (x, q) →
    ∃ l, WayC C (x, i) l ∧ ArcChain E r S ((x, i) :: l) ∧ NoJump E r k S ((x, i) :: l) ∧ (∀ c ∈ l, c.2 < k ∧ ∃ s u, s < t ∧ C[s]? = some (c.1, u)) ∧ (((x, i) :: l).map (·.1)).Nodup ∧ ((((x, i) :: l).map (·.1)).getLast? = some x0) := by
  intro t
  induction t using Nat.strongRecOn with
  | ind t ih =>
    intro x q i ht hx
    by_cases h0 : t = 0
    · subst h0
      have e := B.hd.symm.trans hx
      cases e
      refine ⟨[], List.mem_of_getElem? hx, trivial, trivial, fun c hc => by simp at hc, by simp, by simp⟩
    · obtain ⟨p, j, s, u, a, b, c, d, e, f⟩ := B.tl t (x, q) (Nat.pos_of_ne_zero h0) hx
      have a : q = some (p, j) := a
      subst a
      obtain ⟨l, w1, w2, w3, w4, w5, w6⟩ := ih s c p u j d e
      refine ⟨(p, j) :: l, ⟨List.mem_of_getElem? hx, w1⟩, ⟨f, w2⟩, ⟨fun g hg j' hj' A => ?_, w3⟩, fun g hg => ?_, ?_, ?_⟩
      · obtain ⟨_, s1, u1, v1, v2⟩ := w4 g hg
        obtain ⟨_, n2⟩ := B.cl s1 j' (g.1, u1) v2 hj' (.inl (by omega))
        obtain ⟨s2, p2, j2, q2, m1, m2, m3⟩ := n2 x (B.inE _ (List.mem_of_getElem? hx)) A
        have e1 := key_one B.nd m3 (List.mem_of_getElem? hx)
        cases e1
        have := key_pos B.nd m2 e rfl
        omega
      · rcases List.mem_cons.mp hg with rfl | hg
        · exact ⟨b, s, u, c, e⟩
        · obtain ⟨k1, s1, u1, v1, v2⟩ := w4 g hg
          exact ⟨k1, s1, u1, by omega, v2⟩
      · rw [List.map_cons]
        refine List.nodup_cons.mpr ⟨fun m => ?_, w5⟩
        obtain ⟨g, hg, eg⟩ := List.mem_map.mp m
        rcases List.mem_cons.mp hg with rfl | hg
        · have := key_pos B.nd hx e eg.symm
          omega
        · obtain ⟨_, s1, u1, v1, v2⟩ := w4 g hg
          have := key_pos B.nd hx v2 eg.symm
          omega
      · rw [List.map_cons, List.map_cons, List.getLast?_cons_cons]
        exact w6
theorem BInv.path {x0 : α} {C : Came α} {at_ idx i : Nat} {x : α} {q : Option (α × Nat)} (B : BInv E r k S x0 C at_ idx) (hx : C[at_]? = some (x, q)) (hi : i < k) (R : Ready E r S i x) :
    ∃ l, WayC C (x, i) l ∧ Path E r k S (x, i) l ∧ (((x, i) :: l).map (·.1)).getLast? = some x0 := by
  obtain ⟨l, w1, w2, w3, w4, w5, w6⟩ := B.way at_ x q i (Nat.le_refl _) hx
  refine ⟨l, w1, ⟨fun c hc => ?_, w5, R, w2, fun c hc j hj => ?_, w3, fun y hy j hj => ?_⟩, w6⟩
  · rcases List.mem_cons.mp hc with rfl | hc
    · exact ⟨B.inE _ (List.mem_of_getElem? hx), hi⟩
    · obtain ⟨k1, s, u, _, v⟩ := w4 c hc
      exact ⟨B.inE _ (List.mem_of_getElem? v), k1⟩
  · obtain ⟨k1, s, u, v1, v2⟩ := w4 c hc
    exact (B.cl s j (c.1, u) v2 hj (.inl v1)).1
  · rw [w6] at hy
    cases hy
    exact B.out j hj

/-! ### what no way shows -/
def Closed (E : List α) (r : List α → Nat) (k : Nat) (S : Sts α) (Y : α → Bool) : Prop :=
  ∀ y ∈ E, Y y = true → ∀ i, i < k → ¬ Ready E r S i y ∧ ∀ w ∈ E, Arc E r S i y w → Y w = true
theorem BInv.closed {x0 : α} {C : Came α} {at_ : Nat} (B : BInv E r k S x0 C at_ 0) (h : C.length ≤ at_) : Closed E r k S (mem (C.map (·.1))) := by
  intro y _ hy i hi
  obtain ⟨e, he, rfl⟩ := List.mem_map.mp (mem_t.mp hy)
  obtain ⟨t, ht⟩ := List.mem_iff_getElem?.mp he
  have hl := (List.getElem?_eq_some_iff.mp ht).1
  obtain ⟨a, b⟩ := B.cl t i e ht hi (.inl (by omega))
  refine ⟨a, fun w hw A => ?_⟩
  obtain ⟨_, p, j, q, _, _, m⟩ := b w hw A
  exact mem_t.mpr (List.mem_map.mpr ⟨_, m, rfl⟩)
theorem Closed.or {Y Z : α → Bool} (a : Closed E r k S Y) (b : Closed E r k S Z) : Closed E r k S (por Y Z) := by
  intro y hy h i hi
  rcases por_t.mp h with h | h
  · obtain ⟨p, q⟩ := a y hy h i hi
    exact ⟨p, fun w hw A => por_t.mpr (.inl (q w hw A))⟩
  · obtain ⟨p, q⟩ := b y hy h i hi
    exact ⟨p, fun w hw A => por_t.mpr (.inr (q w hw A))⟩
theorem Closed.none : Closed E r k S fun _ => false := fun _ _ h => by cases h
theorem Closed.rank (m : Mat E r) (G : GoodS E r k S) {Y : α → Bool} (c : Closed E r k S Y) {i : Nat} (hi : i < k) : crd E (pand (S i) Y) = rho E r Y := by
  have fi := G.fr i hi
  refine m.max (m.hered _ (S i) (fun x _ h => (pand_t.mp h).1) fi) (fun x _ h => (pand_t.mp h).2) fun y hy hY hq f => ?_
  have sy : S i y = false := by
    cases e : S i y with
    | false => rfl
    | true =>
      have : pand (S i) Y y = true := pand_t.mpr ⟨e, hY⟩
      rw [hq] at this; cases this
  obtain ⟨nr, cl⟩ := c y hy hY i hi
  have nf : ¬ Fr E r (pin (S i) y) := fun z => nr ⟨sy, z⟩
  obtain ⟨b, b1, b2, b3, b4⟩ := m.extend (q := pin (S i) y) f (fun u _ h => by
    rcases pin_t.mp h with h | h
    · exact pin_t.mpr (.inl (pand_t.mp h).1)
    · exact pin_t.mpr (.inr h))
  have c1 := crd_pin m.nd hy sy
  have c2 := m.top (pin (S i) y) (S i) (fun u _ h => pin_t.mpr (.inl h)) fi
  have c3 := m.le (pin (S i) y)
  have c4 : rho E r (pin (S i) y) ≠ crd E (pin (S i) y) := nf
  obtain ⟨w, hw, w1, w2⟩ := crd_lt (E := E) (p := b) (q := pin (S i) y) (by omega)
  have c5 := crd_pdel m.nd hw w1
  have wb : Sub E b (pdel (pin (S i) y) w) := fun u hu h => pdel_t.mpr ⟨b2 u hu h, fun e => by rw [e, w2] at h; cases h⟩
  have full := crd_full wb (by omega)
  have fw : Fr E r (pdel (pin (S i) y) w) := b3.eqOn fun u hu => by
    cases h1 : b u with
    | true => exact (wb u hu h1).symm
    | false =>
      cases h2 : pdel (pin (S i) y) w u with
      | false => rfl
      | true => rw [full u hu h2] at h1; cases h1
  have wy : w ≠ y := fun e => by
    have := b1 y hy (pin_t.mpr (.inr rfl))
    rw [← e, w2] at this; cases this
  have sw : S i w = true := by
    rcases pin_t.mp w1 with q | q
    · exact q
    · exact absurd q wy
  have hYw := cl w hw ⟨sy, sw, nf, fw⟩
  have := b1 w hw (pin_t.mpr (.inl (pand_t.mpr ⟨sw, hYw⟩)))
  rw [w2] at this; cases this

/-! ### all places together -/
def tot : Nat → (Nat → Nat) → Nat
  | 0, _ => 0
  | n + 1, f => tot n f + f n
theorem tot_le {f g : Nat → Nat} : ∀ {n : Nat}, (∀ i, i < n → f i ≤ g i) → tot n f ≤ tot n g
  | 0, _ => Nat.le_refl _
  | n + 1, h => by
    have a := tot_le (n := n) fun i hi => h i (by omega)
    have b := h n (by omega)
    show tot n f + f n ≤ tot n g + g n
    omega
theorem tot_const (c : Nat) : ∀ n : Nat, tot n (fun _ => c) = n * c
  | 0 => by show 0 = 0 * c; rw [Nat.zero_mul]
  | n + 1 => by
    show tot n (fun _ => c) + c = (n + 1) * c
    rw [tot_const c n, Nat.succ_mul]
theorem tot_congr {f g : Nat → Nat} : ∀ {n : Nat}, (∀ i, i < n → f i = g i) → tot n f = tot n g
  | 0, _ => rfl
  | n + 1, h => by
    show tot n f + f n = tot n g + g n
    rw [tot_congr (n := n) fun i hi => h i (by omega), h n (by omega)]
/-- in some place -/
def uni (k : Nat) (S : Sts α) : α → Bool := fun x => (List.range k).any fun i => S i x
theorem uni_t {x : α} : uni k S x = true ↔ ∃ i, i < k ∧ S i x = true := by
  unfold uni
  rw [List.any_eq_true]
  constructor
  · rintro ⟨i, h1, h2⟩; exact ⟨i, List.mem_range.mp h1, h2⟩
  · rintro ⟨i, h1, h2⟩; exact ⟨i, List.mem_range.mpr h1, h2⟩
theorem uni_f {x : α} : uni k S x = false ↔ ∀ i, i < k → S i x = false := by
  constructor
  · intro h i hi
    cases e : S i x with
    | false => rfl
    | true => rw [uni_t.mpr ⟨i, hi, e⟩] at h; cases h
  · intro h
    cases e : uni k S x with
    | false => rfl
    | true =>
      obtain ⟨i, hi, e2⟩ := uni_t.mp e
      rw [h i hi] at e2; cases e2
theorem tot_uni : ∀ {k : Nat} (Y : α → Bool), (∀ i j x, i < k → j < k → x ∈ E → S i x = true → S j x = true → i = j) → tot k (fun i => crd E (pand (S i) Y)) = crd E (pand (uni k S) Y)
  | 0, Y, _ => by
    show 0 = _
    rw [crd_none fun x _ => ?_]
    cases e : pand (uni 0 S) Y x with
    | false => rfl
    | true =>
      obtain ⟨i, hi, _⟩ := uni_t.mp (pand_t.mp e).1
      omega
  | k + 1, Y, dis => by
    have ih := tot_uni (k := k) Y fun i j x hi hj => dis i j x (by omega) (by omega)
    show tot k (fun i => crd E (pand (S i) Y)) + crd E (pand (S k) Y) = _
    rw [ih, crd_split (S k) (p := pand (uni (k + 1) S) Y), Nat.add_comm]
    congr 1
    · refine crd_congr fun x _ => ?_
      cases e1 : S k x <;> cases e2 : Y x <;> unfold pand <;> simp [e1, e2]
      exact uni_t.mpr ⟨k, by omega, e1⟩
    · refine crd_congr fun x hx => ?_
      cases e1 : S k x with
      | true =>
        have : uni k S x = false := uni_f.mpr fun i hi => by
          cases e : S i x with
          | false => rfl
          | true =>
            have := dis i k x (by omega) (by omega) hx e e1
            omega
        unfold pand pdif
        simp [this, e1]
      | false =>
        have : uni (k + 1) S x = uni k S x := by
          cases e : uni k S x with
          | true =>
            obtain ⟨i, hi, h⟩ := uni_t.mp e
            exact uni_t.mpr ⟨i, by omega, h⟩
          | false =>
            refine uni_f.mpr fun i hi => ?_
            by_cases c : i = k
            · rw [c]; exact e1
            · exact uni_f.mp e i (by omega)
        unfold pand pdif
        simp [this, e1]
theorem GoodS.sum_le (m : Mat E r) (G : GoodS E r k S) (Y : α → Bool) : crd E (pand (uni k S) Y) ≤ k * rho E r Y := by
  rw [← tot_uni Y G.dis, ← tot_const]
  exact tot_le fun i hi => m.top _ _ (fun x _ h => (pand_t.mp h).2) (m.hered _ (S i) (fun x _ h => (pand_t.mp h).1) (G.fr i hi))
theorem Closed.sum (m : Mat E r) (G : GoodS E r k S) {Y : α → Bool} (c : Closed E r k S Y) : crd E (pand (uni k S) Y) = k * rho E r Y := by
  rw [← tot_uni Y G.dis, ← tot_const]
  exact tot_congr fun i hi => c.rank m G hi

/-! ### covers and packs, by inequalities -/
def CovOK (E : List α) (r : List α → Nat) (k : Nat) : Prop := ∀ X : α → Bool, crd E X ≤ k * rho E r X
def PackOK (E : List α) (r : List α → Nat) (k : Nat) : Prop := ∀ X : α → Bool, k * (rho E r (fun _ => true) - rho E r X) ≤ crd E (fun x => !X x)
theorem cov_yes (m : Mat E r) (G : GoodS E r k S) (h : ∀ x ∈ E, uni k S x = true) : CovOK E r k := fun X => by
  refine Nat.le_trans (Nat.le_of_eq ?_) (G.sum_le m X)
  exact crd_congr fun x hx => by unfold pand; rw [h x hx]; simp
theorem cov_no (m : Mat E r) (G : GoodS E r k S) {Y : α → Bool} (c : Closed E r k S Y) {x : α} (hx : x ∈ E) (hY : Y x = true) (ho : uni k S x = false) : ¬ CovOK E r k := fun h => by
  have h1 := h Y
  rw [← c.sum m G] at h1
  have full := crd_full (E := E) (p := pand (uni k S) Y) (q := Y) (fun y _ q => (pand_t.mp q).2) h1
  have := (pand_t.mp (full x hx hY)).1
  rw [ho] at this; cases this
theorem pack_yes (m : Mat E r) (G : GoodS E r k S) (h : k * rho E r (fun _ => true) ≤ crd E (uni k S)) : PackOK E r k := fun X => by
  have h1 := G.sum_le m X
  have h2 := crd_split X (E := E) (p := uni k S)
  have h3 : crd E (pdif (uni k S) X) ≤ crd E (fun x => !X x) := crd_mono fun x _ q => by simpa using (pdif_t.mp q).2
  rw [Nat.mul_sub]
  omega
theorem pack_no (m : Mat E r) (G : GoodS E r k S) {Y : α → Bool} (c : Closed E r k S Y) (hY : ∀ x ∈ E, uni k S x = false → Y x = true) (h : crd E (uni k S) < k * rho E r (fun _ => true)) : ¬ PackOK E r k := fun p => by
  have h1 := p Y
  have h2 := crd_split Y (E := E) (p := uni k S)
  have h3 : crd E (pdif (uni k S) Y) = crd E (fun x => !Y x) := crd_congr fun x hx => by
    cases e1 : Y x with
    | true => unfold pdif; simp [e1]
    | false =>
      have : uni k S x = true := by
        cases e : uni k S x with
        | true => rfl
        | false => rw [hY x hx e] at e1; cases e1
      unfold pdif; simp [e1, this]
  have h4 := c.sum m G
  rw [Nat.mul_sub] at h1
  omega
end
end BF
set_option linter.all false
/-! fewest and most by inequalities; families cut short, side by side, under other names; the rank by bases. -/
namespace BF
section
variable {α : Type} [DecidableEq α] {E : List α} {r : List α → Nat}

def only (x : α) : α → Bool := fun y => decide (y = x)
def full : α → Bool := fun _ => true
def FewIs (E : List α) (r : List α → Nat) : Option Nat → Prop
  | none => ∃ x ∈ E, rho E r (only x) = 0
  | some k => (∀ x ∈ E, rho E r (only x) ≠ 0) ∧ CovOK E r k ∧ ∀ j, j < k → ¬ CovOK E r j
def MostIs (E : List α) (r : List α → Nat) : Option Nat → Prop
  | none => rho E r full = 0
  | some k => rho E r full ≠ 0 ∧ PackOK E r k ∧ ¬ PackOK E r (k + 1)
theorem FewIs.one {a b : Option Nat} (h : FewIs E r a) (h' : FewIs E r b) : a = b := by
  cases a with
  | none =>
    cases b with
    | none => rfl
    | some k =>
      obtain ⟨x, hx, e⟩ := h
      exact absurd e (h'.1 x hx)
  | some k =>
    cases b with
    | none =>
      obtain ⟨x, hx, e⟩ := h'
      exact absurd e (h.1 x hx)
    | some j =>
      congr 1
      rcases Nat.lt_trichotomy k j with c | c | c
      · exact absurd h.2.1 (h'.2.2 k c)
      · exact c
      · exact absurd h'.2.1 (h.2.2 j c)
theorem PackOK.mono {j k : Nat} (h : PackOK E r k) (c : j ≤ k) : PackOK E r j := fun X => Nat.le_trans (Nat.mul_le_mul_right _ c) (h X)
theorem MostIs.one {a b : Option Nat} (h : MostIs E r a) (h' : MostIs E r b) : a = b := by
  cases a with
  | none =>
    cases b with
    | none => rfl
    | some k => exact absurd h h'.1
  | some k =>
    cases b with
    | none => exact absurd h' h.1
    | some j =>
      congr 1
      rcases Nat.lt_trichotomy k j with c | c | c
      · exact absurd (h'.2.1.mono c) h.2.2
      · exact c
      · exact absurd (h.2.1.mono c) h'.2.2
theorem CovOK.mono {j k : Nat} (h : CovOK E r j) (c : j ≤ k) : CovOK E r k := fun X => Nat.le_trans (h X) (Nat.mul_le_mul_right _ c)
theorem rho_pos (m : Mat E r) (h : ∀ x ∈ E, rho E r (only x) ≠ 0) (X : α → Bool) (hX : 0 < crd E X) : 1 ≤ rho E r X := by
  obtain ⟨x, hx, x1, _⟩ := crd_lt (E := E) (p := fun _ => false) (q := X) (by rw [crd_none fun _ _ => rfl]; exact hX)
  have := m.mono (p := only x) (q := X) fun y _ e => by
    have : y = x := by simpa [only] using e
    subst this; exact x1
  have := h x hx
  omega
/-- without stuck things as many lots as there are things do -/
theorem cov_enough (m : Mat E r) (h : ∀ x ∈ E, rho E r (only x) ≠ 0) : CovOK E r E.length := fun X => by
  by_cases c : 0 < crd E X
  · have h1 := rho_pos m h X c
    have h2 : crd E X ≤ E.length := crd_le
    calc crd E X ≤ E.length * 1 := by omega
      _ ≤ E.length * rho E r X := Nat.mul_le_mul_left _ h1
  · have : crd E X = 0 := by omega
    rw [this]; exact Nat.zero_le _
theorem rho_gap (m : Mat E r) (X : α → Bool) : rho E r full - rho E r X ≤ crd E (fun x => !X x) := by
  obtain ⟨b, b1, b2, b3⟩ := m.base full
  have s := crd_split X (E := E) (p := b)
  have t := m.top X (pand b X) (fun x _ h => (pand_t.mp h).2) (m.hered _ b (fun x _ h => (pand_t.mp h).1) b2)
  have u : crd E (pdif b X) ≤ crd E (fun x => !X x) := crd_mono fun x _ h => by simpa using (pdif_t.mp h).2
  omega
theorem pack_one (m : Mat E r) : PackOK E r 1 := fun X => by rw [Nat.one_mul]; exact rho_gap m X
theorem pack_bound (m : Mat E r) (h : rho E r full ≠ 0) {k : Nat} (p : PackOK E r k) : k ≤ E.length := by
  have h1 := p fun _ => false
  have h2 : rho E r (fun _ => false) = 0 := by
    have := m.le (fun _ : α => false)
    rw [crd_none fun _ _ => rfl] at this
    omega
  rw [h2, Nat.sub_zero] at h1
  have h3 : crd E (fun x : α => !(fun _ => false) x) ≤ E.length := crd_le
  have h4 : k * 1 ≤ k * rho E r full := Nat.mul_le_mul_left k (Nat.one_le_iff_ne_zero.mpr h)
  have h5 : k * rho E r full ≤ crd E (fun x : α => !(fun _ => false) x) := h1
  omega
/-! ### cut short -/
def rCut (c : Nat) (r : List α → Nat) : List α → Nat := fun l => min c (r l)
theorem fr_cut {c : Nat} (m : Mat E r) {p : α → Bool} : Fr E (rCut c r) p ↔ Fr E r p ∧ crd E p ≤ c := by
  have := m.le p
  unfold Fr rCut
  unfold rho at this
  constructor
  · intro h; omega
  · rintro ⟨h1, h2⟩; omega
theorem Mat.cut (m : Mat E r) (c : Nat) : Mat E (rCut c r) where
  nd := m.nd
  hered := fun p q s h => by
    obtain ⟨h1, h2⟩ := (fr_cut m).mp h
    exact (fr_cut m).mpr ⟨m.hered p q s h1, Nat.le_trans (crd_mono s) h2⟩
  exch := fun p q hp hq hc => by
    obtain ⟨p1, p2⟩ := (fr_cut m).mp hp
    obtain ⟨q1, q2⟩ := (fr_cut m).mp hq
    obtain ⟨x, hx, x1, x2, x3⟩ := m.exch p q p1 q1 hc
    refine ⟨x, hx, x1, x2, (fr_cut m).mpr ⟨x3, ?_⟩⟩
    rw [crd_pin m.nd hx x2]; omega
  base := fun p => by
    obtain ⟨b, b1, b2, b3⟩ := m.base p
    by_cases h : crd E b ≤ c
    · exact ⟨b, b1, (fr_cut m).mpr ⟨b2, h⟩, by unfold rho rCut; unfold rho at b3; omega⟩
    · -- take c of them
      have take : ∀ (n : Nat) (q : α → Bool), crd E q = n → Sub E q b → c ≤ n → ∃ q', Sub E q' b ∧ crd E q' = c := by
        intro n
        induction n with
        | zero => intro q h1 h2 h3; exact ⟨q, h2, by omega⟩
        | succ n ih =>
          intro q h1 h2 h3
          by_cases e : c = n + 1
          · exact ⟨q, h2, by omega⟩
          · obtain ⟨x, hx, x1, _⟩ := crd_lt (E := E) (p := fun _ => false) (q := q) (by rw [crd_none fun _ _ => rfl]; omega)
            have := crd_pdel m.nd hx x1
            exact ih (pdel q x) (by omega) (fun y hy h => h2 y hy (pdel_t.mp h).1) (by omega)
      obtain ⟨q, q1, q2⟩ := take (crd E b) b rfl (fun _ _ h => h) (by omega)
      refine ⟨q, fun x hx h => b1 x hx (q1 x hx h), (fr_cut m).mpr ⟨m.hered _ b q1 b2, by omega⟩, ?_⟩
      unfold rho rCut
      unfold rho at b3
      omega
  top := fun p q s h => by
    obtain ⟨h1, h2⟩ := (fr_cut m).mp h
    have := m.top p q s h1
    unfold rho rCut
    unfold rho at this
    omega
theorem few_cut (m : Mat E r) {c j k : Nat} (h : FewIs E r (some k)) (h' : FewIs E (rCut c r) (some j)) : k ≤ j := by
  apply Classical.byContradiction
  intro n
  refine h.2.2 j (by omega) fun X => Nat.le_trans (h'.2.1 X) (Nat.mul_le_mul_left _ ?_)
  exact Nat.min_le_right _ _
theorem most_cut (m : Mat E r) {c j k : Nat} (h : MostIs E r (some k)) (h' : MostIs E (rCut c r) (some j)) : k ≤ j := by
  apply Classical.byContradiction
  intro n
  refine h'.2.2 ?_
  have p : PackOK E r (j + 1) := h.2.1.mono (by omega)
  intro X
  refine Nat.le_trans (Nat.mul_le_mul_left _ ?_) (p X)
  have := m.mono (p := X) (q := full) fun _ _ _ => rfl
  show min c (rho E r full) - min c (rho E r X) ≤ rho E r full - rho E r X
  omega
/-! ### all free -/
theorem Mat.free (nd : E.Nodup) : Mat E List.length where
  nd := nd
  hered := fun p q _ _ => rfl
  exch := fun p q _ _ h => by
    obtain ⟨x, hx, x1, x2⟩ := crd_lt h
    exact ⟨x, hx, x1, x2, rfl⟩
  base := fun p => ⟨p, fun _ _ h => h, rfl, rfl⟩
  top := fun p q s _ => crd_mono s
/-! ### under other names -/
def rRen {β : Type} [DecidableEq β] (E : List α) (r : List α → Nat) (f : α → β) : List β → Nat := fun l => r (E.filter fun x => mem l (f x))
section
variable {β : Type} [DecidableEq β] {f : α → β} {E' : List β}
theorem crd_map (f : α → β) : ∀ {E : List α} {p : β → Bool}, crd (E.map f) p = crd E fun x => p (f x)
  | [], _ => rfl
  | x :: E, p => by rw [List.map_cons, crd_cons, crd_cons, crd_map f]
theorem crd_perm {E E' : List α} {p : α → Bool} (h : E'.Perm E) : crd E' p = crd E p := by
  unfold crd; exact (h.filter p).length_eq
theorem crd_ren (h : E'.Perm (E.map f)) {p : β → Bool} : crd E' p = crd E fun x => p (f x) := by
  rw [crd_perm h, crd_map]
theorem rho_ren (h : E'.Perm (E.map f)) {p : β → Bool} : rho E' (rRen E r f) p = rho E r fun x => p (f x) := by
  unfold rho rRen
  refine congrArg r (List.filter_congr fun x hx => ?_)
  have : f x ∈ E' := h.mem_iff.mpr (List.mem_map.mpr ⟨x, hx, rfl⟩)
  unfold mem
  cases e : p (f x) with
  | true => exact decide_eq_true (List.mem_filter.mpr ⟨this, e⟩)
  | false => exact decide_eq_false fun q => by rw [(List.mem_filter.mp q).2] at e; cases e
theorem fr_ren (h : E'.Perm (E.map f)) {p : β → Bool} : Fr E' (rRen E r f) p ↔ Fr E r fun x => p (f x) := by
  have a := rho_ren (r := r) h (p := p)
  have b := crd_ren h (p := p)
  unfold Fr
  unfold rho at a
  rw [a, b]
/-- a test over the old names as one over the new -/
def push (E : List α) (f : α → β) (q : α → Bool) : β → Bool := fun y => E.any fun x => q x && decide (f x = y)
theorem push_f {q : α → Bool} (inj : ∀ x ∈ E, ∀ y ∈ E, f x = f y → x = y) {x : α} (hx : x ∈ E) : push E f q (f x) = q x := by
  unfold push
  cases e : q x with
  | true => exact List.any_eq_true.mpr ⟨x, hx, by simp [e]⟩
  | false =>
    cases e2 : E.any fun z => q z && decide (f z = f x) with
    | false => rfl
    | true =>
      obtain ⟨z, hz, h⟩ := List.any_eq_true.mp e2
      rw [Bool.and_eq_true] at h
      have := inj z hz x hx (of_decide_eq_true h.2)
      subst this
      rw [e] at h
      exact absurd h.1 (by simp)
theorem Mat.ren (m : Mat E r) (h : E'.Perm (E.map f)) (inj : ∀ x ∈ E, ∀ y ∈ E, f x = f y → x = y) (nd' : E'.Nodup) : Mat E' (rRen E r f) where
  nd := nd'
  hered := fun p q s hq => (fr_ren h).mpr (m.hered _ _ (fun x hx hp => s _ (h.mem_iff.mpr (List.mem_map.mpr ⟨x, hx, rfl⟩)) hp) ((fr_ren h).mp hq))
  exch := fun p q hp hq hc => by
    rw [crd_ren h, crd_ren h] at hc
    obtain ⟨x, hx, x1, x2, x3⟩ := m.exch _ _ ((fr_ren h).mp hp) ((fr_ren h).mp hq) hc
    refine ⟨f x, h.mem_iff.mpr (List.mem_map.mpr ⟨x, hx, rfl⟩), x1, x2, (fr_ren h).mpr (x3.eqOn fun y hy => ?_)⟩
    unfold pin
    by_cases e : y = x
    · subst e; simp
    · have : f y ≠ f x := fun q => e (inj y hy x hx q)
      simp [e, this]
  base := fun p => by
    obtain ⟨b, b1, b2, b3⟩ := m.base fun x => p (f x)
    have e : EqOn E (fun x => push E f b (f x)) b := fun x hx => push_f inj hx
    refine ⟨push E f b, fun y hy hb => ?_, (fr_ren h).mpr (b2.eqOn fun x hx => (e x hx).symm), ?_⟩
    · obtain ⟨x, hx, rfl⟩ := List.mem_map.mp (h.mem_iff.mp hy)
      exact b1 x hx (by rw [push_f inj hx] at hb; exact hb)
    · rw [crd_ren h, rho_ren h, crd_congr e, b3]
  top := fun p q s hq => by
    rw [crd_ren h, rho_ren h]
    exact m.top _ _ (fun x hx hp => s _ (h.mem_iff.mpr (List.mem_map.mpr ⟨x, hx, rfl⟩)) hp) ((fr_ren h).mp hq)
theorem cov_ren (h : E'.Perm (E.map f)) (inj : ∀ x ∈ E, ∀ y ∈ E, f x = f y → x = y) {k : Nat} : CovOK E' (rRen E r f) k ↔ CovOK E r k := by
  constructor
  · intro c X
    have := c (push E f X)
    have e : EqOn E (fun x => push E f X (f x)) X := fun x hx => push_f inj hx
    rw [crd_ren h, rho_ren h, crd_congr e, rho_eqOn e] at this
    exact this
  · intro c X
    rw [crd_ren h, rho_ren h]
    exact c _
theorem pack_ren (h : E'.Perm (E.map f)) (inj : ∀ x ∈ E, ∀ y ∈ E, f x = f y → x = y) {k : Nat} : PackOK E' (rRen E r f) k ↔ PackOK E r k := by
  constructor
  · intro c X
    have := c (push E f X)
    have e : EqOn E (fun x => push E f X (f x)) X := fun x hx => push_f inj hx
    have e2 : EqOn E (fun x => !push E f X (f x)) fun x => !X x := fun x hx => congrArg not (push_f inj hx)
    rw [crd_ren h, rho_ren h, rho_ren h, crd_congr e2, rho_eqOn e] at this
    exact this
  · intro c X
    rw [crd_ren h, rho_ren h, rho_ren h]
    exact c _
theorem few_ren (h : E'.Perm (E.map f)) (inj : ∀ x ∈ E, ∀ y ∈ E, f x = f y → x = y) {o : Option Nat} (q : FewIs E r o) : FewIs E' (rRen E r f) o := by
  have e : ∀ x ∈ E, rho E' (rRen E r f) (only (f x)) = rho E r (only x) := fun x hx => by
    rw [rho_ren h]
    refine rho_eqOn fun y hy => ?_
    unfold only
    by_cases e : y = x
    · subst e; simp
    · have : f y ≠ f x := fun q => e (inj y hy x hx q)
      simp [e, this]
  cases o with
  | none =>
    obtain ⟨x, hx, hz⟩ := q
    exact ⟨f x, h.mem_iff.mpr (List.mem_map.mpr ⟨x, hx, rfl⟩), (e x hx).trans hz⟩
  | some k =>
    refine ⟨fun y hy => ?_, (cov_ren h inj).mpr q.2.1, fun j hj c => q.2.2 j hj ((cov_ren h inj).mp c)⟩
    obtain ⟨x, hx, rfl⟩ := List.mem_map.mp (h.mem_iff.mp hy)
    rw [e x hx]; exact q.1 x hx
theorem most_ren (h : E'.Perm (E.map f)) (inj : ∀ x ∈ E, ∀ y ∈ E, f x = f y → x = y) {o : Option Nat} (q : MostIs E r o) : MostIs E' (rRen E r f) o := by
  have e : rho E' (rRen E r f) full = rho E r full := rho_ren h
  cases o with
  | none => exact e.trans q
  | some k => exact ⟨by rw [e]; exact q.1, (pack_ren h inj).mpr q.2.1, fun c => q.2.2 ((pack_ren h inj).mp c)⟩
end
/-! ### side by side -/
def rSum (E1 E2 : List α) (r1 r2 : List α → Nat) : List α → Nat := fun l => r1 (l.filter (mem E1)) + r2 (l.filter (mem E2))
/-- E1 and E2 side by side are E, in the order of E -/
structure Side (E E1 E2 : List α) : Prop where
  nd : E.Nodup
  l : E.filter (mem E1) = E1
  r : E.filter (mem E2) = E2
  cut : ∀ x ∈ E, mem E1 x = !mem E2 x
section
variable {E1 E2 : List α} {r1 r2 : List α → Nat}
theorem Side.inL (d : Side E E1 E2) {x : α} (h : x ∈ E1) : x ∈ E := by rw [← d.l] at h; exact (List.mem_filter.mp h).1
theorem Side.inR (d : Side E E1 E2) {x : α} (h : x ∈ E2) : x ∈ E := by rw [← d.r] at h; exact (List.mem_filter.mp h).1
theorem Side.fl (d : Side E E1 E2) (p : α → Bool) : (E.filter p).filter (mem E1) = E1.filter p := by
  conv => rhs; rw [← d.l]
  rw [List.filter_filter, List.filter_filter]
  exact List.filter_congr fun x _ => Bool.and_comm _ _
theorem Side.fr (d : Side E E1 E2) (p : α → Bool) : (E.filter p).filter (mem E2) = E2.filter p := by
  conv => rhs; rw [← d.r]
  rw [List.filter_filter, List.filter_filter]
  exact List.filter_congr fun x _ => Bool.and_comm _ _
theorem Side.rho (d : Side E E1 E2) (p : α → Bool) : rho E (rSum E1 E2 r1 r2) p = BF.rho E1 r1 p + BF.rho E2 r2 p := by
  unfold BF.rho rSum
  rw [d.fl, d.fr]
theorem Side.crd (d : Side E E1 E2) (p : α → Bool) : crd E p = BF.crd E1 p + BF.crd E2 p := by
  rw [crd_split (mem E1) (E := E) (p := p)]
  unfold BF.crd
  rw [← d.fl p, ← d.fr p, List.filter_filter, List.filter_filter]
  congr 2
  · exact List.filter_congr fun x _ => by unfold pand; exact Bool.and_comm _ _
  · refine List.filter_congr fun x hx => ?_
    unfold pdif
    rw [d.cut x hx, Bool.not_not]; exact Bool.and_comm _ _
theorem Side.free (d : Side E E1 E2) (m1 : Mat E1 r1) (m2 : Mat E2 r2) {p : α → Bool} : Fr E (rSum E1 E2 r1 r2) p ↔ Fr E1 r1 p ∧ Fr E2 r2 p := by
  have a := d.rho (r1 := r1) (r2 := r2) p
  have b := d.crd p
  have c1 := m1.le p
  have c2 := m2.le p
  unfold Fr
  unfold BF.rho at a c1 c2
  rw [a, b]
  constructor
  · intro h; omega
  · rintro ⟨h1, h2⟩; omega
theorem Side.pinL (d : Side E E1 E2) {p : α → Bool} {x : α} (hx : x ∈ E1) : EqOn E2 (pin p x) p := fun y hy => by
  have : y ≠ x := fun e => by
    subst e
    have := d.cut y (d.inR hy)
    rw [mem_t.mpr hx, mem_t.mpr hy] at this
    cases this
  unfold pin; simp [this]
theorem Side.pinR (d : Side E E1 E2) {p : α → Bool} {x : α} (hx : x ∈ E2) : EqOn E1 (pin p x) p := fun y hy => by
  have : y ≠ x := fun e => by
    subst e
    have := d.cut y (d.inL hy)
    rw [mem_t.mpr hx, mem_t.mpr hy] at this
    cases this
  unfold pin; simp [this]
/-- two tests, one for each side -/
def two (E1 : List α) (a b : α → Bool) : α → Bool := fun x => if mem E1 x then a x else b x
theorem Side.twoL (_ : Side E E1 E2) {a b : α → Bool} : EqOn E1 (two E1 a b) a := fun x hx => by unfold two; rw [if_pos (mem_t.mpr hx)]
theorem Side.twoR (d : Side E E1 E2) {a b : α → Bool} : EqOn E2 (two E1 a b) b := fun x hx => by
  have := d.cut x (d.inR hx)
  rw [mem_t.mpr hx] at this
  unfold two; rw [this]; rfl
theorem Side.mat (d : Side E E1 E2) (m1 : Mat E1 r1) (m2 : Mat E2 r2) : Mat E (rSum E1 E2 r1 r2) where
  nd := d.nd
  hered := fun p q s h => by
    obtain ⟨h1, h2⟩ := (d.free m1 m2).mp h
    exact (d.free m1 m2).mpr ⟨m1.hered p q (fun x hx => s x (d.inL hx)) h1, m2.hered p q (fun x hx => s x (d.inR hx)) h2⟩
  exch := fun p q hp hq hc => by
    obtain ⟨p1, p2⟩ := (d.free m1 m2).mp hp
    obtain ⟨q1, q2⟩ := (d.free m1 m2).mp hq
    rw [d.crd, d.crd] at hc
    by_cases c : BF.crd E1 p < BF.crd E1 q
    · obtain ⟨x, hx, x1, x2, x3⟩ := m1.exch p q p1 q1 c
      exact ⟨x, d.inL hx, x1, x2, (d.free m1 m2).mpr ⟨x3, p2.eqOn fun y hy => (d.pinL hx y hy).symm⟩⟩
    · obtain ⟨x, hx, x1, x2, x3⟩ := m2.exch p q p2 q2 (by omega)
      exact ⟨x, d.inR hx, x1, x2, (d.free m1 m2).mpr ⟨p1.eqOn fun y hy => (d.pinR hx y hy).symm, x3⟩⟩
  base := fun p => by
    obtain ⟨a, a1, a2, a3⟩ := m1.base p
    obtain ⟨b, b1, b2, b3⟩ := m2.base p
    refine ⟨two E1 a b, fun x hx h => ?_, (d.free m1 m2).mpr ⟨a2.eqOn fun y hy => (d.twoL y hy).symm, b2.eqOn fun y hy => (d.twoR y hy).symm⟩, ?_⟩
    · by_cases c : x ∈ E1
      · exact a1 x c (by rw [← d.twoL (a := a) (b := b) x c]; exact h)
      · have e := d.cut x hx
        rw [mem_f.mpr c] at e
        have c2 : x ∈ E2 := mem_t.mp (by simpa using e)
        exact b1 x c2 (by rw [← d.twoR (a := a) (b := b) x c2]; exact h)
    · rw [d.crd, d.rho, crd_congr (d.twoL (a := a) (b := b)), crd_congr (d.twoR (a := a) (b := b)), a3, b3]
  top := fun p q s h => by
    obtain ⟨h1, h2⟩ := (d.free m1 m2).mp h
    rw [d.crd, d.rho]
    exact Nat.add_le_add (m1.top p q (fun x hx => s x (d.inL hx)) h1) (m2.top p q (fun x hx => s x (d.inR hx)) h2)
theorem Side.cov (d : Side E E1 E2) (m1 : Mat E1 r1) (m2 : Mat E2 r2) {k : Nat} : CovOK E (rSum E1 E2 r1 r2) k ↔ CovOK E1 r1 k ∧ CovOK E2 r2 k := by
  have z1 : BF.rho E1 r1 (fun _ => false) = 0 := by
    have := m1.le fun _ => false
    rw [crd_none fun _ _ => rfl] at this; omega
  have z2 : BF.rho E2 r2 (fun _ => false) = 0 := by
    have := m2.le fun _ => false
    rw [crd_none fun _ _ => rfl] at this; omega
  constructor
  · intro h
    constructor
    · intro X
      have := h (two E1 X fun _ => false)
      rw [d.crd, d.rho, crd_congr (d.twoL (a := X)), crd_congr (d.twoR (a := X)), rho_eqOn (d.twoL (a := X)), rho_eqOn (d.twoR (a := X)), z2, crd_none (E := E2) (p := fun _ => false) fun _ _ => rfl] at this
      simpa using this
    · intro X
      have := h (two E1 (fun _ => false) X)
      rw [d.crd, d.rho, crd_congr (d.twoL (b := X)), crd_congr (d.twoR (b := X)), rho_eqOn (d.twoL (b := X)), rho_eqOn (d.twoR (b := X)), z1, crd_none (E := E1) (p := fun _ => false) fun _ _ => rfl] at this
      simpa using this
  · rintro ⟨h1, h2⟩ X
    rw [d.crd, d.rho, Nat.mul_add]
    exact Nat.add_le_add (h1 X) (h2 X)
theorem Side.pack (d : Side E E1 E2) (m1 : Mat E1 r1) (m2 : Mat E2 r2) {k : Nat} : PackOK E (rSum E1 E2 r1 r2) k ↔ PackOK E1 r1 k ∧ PackOK E2 r2 k := by
  have neg : ∀ (a b : α → Bool), (fun x => !two E1 a b x) = two E1 (fun x => !a x) (fun x => !b x) := fun a b => by
    funext x; unfold two; split <;> rfl
  have mo1 : ∀ X : α → Bool, BF.rho E1 r1 X ≤ BF.rho E1 r1 (fun _ => true) := fun X => m1.mono fun _ _ _ => rfl
  have mo2 : ∀ X : α → Bool, BF.rho E2 r2 X ≤ BF.rho E2 r2 (fun _ => true) := fun X => m2.mono fun _ _ _ => rfl
  constructor
  · intro h
    constructor
    · intro X
      have := h (two E1 X fun _ => true)
      rw [neg, d.crd, d.rho, d.rho, crd_congr (d.twoL (a := fun x => !X x)), crd_congr (d.twoR (a := fun x => !X x)), rho_eqOn (d.twoL (a := X)), rho_eqOn (d.twoR (a := X)), crd_none (E := E2) (p := fun _ => !true) fun _ _ => rfl] at this
      rw [Nat.add_sub_add_right] at this
      exact this
    · intro X
      have := h (two E1 (fun _ => true) X)
      rw [neg, d.crd, d.rho, d.rho, crd_congr (d.twoL (b := fun x => !X x)), crd_congr (d.twoR (b := fun x => !X x)), rho_eqOn (d.twoL (b := X)), rho_eqOn (d.twoR (b := X)), crd_none (E := E1) (p := fun _ => !true) fun _ _ => rfl] at this
      rw [Nat.add_sub_add_left, Nat.zero_add] at this
      exact this
  · rintro ⟨h1, h2⟩ X
    rw [d.crd, d.rho, d.rho]
    have a := h1 X
    have b := h2 X
    have c1 := mo1 X
    have c2 := mo2 X
    rw [show BF.rho E1 r1 (fun _ => true) + BF.rho E2 r2 (fun _ => true) - (BF.rho E1 r1 X + BF.rho E2 r2 X) = (BF.rho E1 r1 (fun _ => true) - BF.rho E1 r1 X) + (BF.rho E2 r2 (fun _ => true) - BF.rho E2 r2 X) by omega, Nat.mul_add]
    exact Nat.add_le_add a b
/-- the greater of two numbers of lots -/
def sideFew : Option Nat → Option Nat → Option Nat
  | some a, some b => some (max a b)
  | _, _ => none
/-- the lesser of two numbers of bases; none: no bound -/
def sideMost : Option Nat → Option Nat → Option Nat
  | some a, some b => some (min a b)
  | some a, none => some a
  | none, o => o
theorem Side.few (d : Side E E1 E2) (m1 : Mat E1 r1) (m2 : Mat E2 r2) {a b : Option Nat} (h1 : FewIs E1 r1 a) (h2 : FewIs E2 r2 b) : FewIs E (rSum E1 E2 r1 r2) (sideFew a b) := by
  have oL : ∀ x ∈ E1, BF.rho E (rSum E1 E2 r1 r2) (only x) = BF.rho E1 r1 (only x) := fun x hx => by
    rw [d.rho, rho_eqOn (E := E2) (q := fun _ => false) fun y hy => ?_]
    · have := m2.le fun _ => false
      rw [crd_none fun _ _ => rfl] at this; omega
    · have := d.pinL (p := fun _ => false) hx y hy
      unfold only; unfold pin at this; simpa using this
  have oR : ∀ x ∈ E2, BF.rho E (rSum E1 E2 r1 r2) (only x) = BF.rho E2 r2 (only x) := fun x hx => by
    rw [d.rho, rho_eqOn (E := E1) (q := fun _ => false) fun y hy => ?_]
    · have := m1.le fun _ => false
      rw [crd_none fun _ _ => rfl] at this; omega
    · have := d.pinR (p := fun _ => false) hx y hy
      unfold only; unfold pin at this; simpa using this
  cases a with
  | none =>
    obtain ⟨x, hx, e⟩ := h1
    exact ⟨x, d.inL hx, (oL x hx).trans e⟩
  | some a =>
    cases b with
    | none =>
      obtain ⟨x, hx, e⟩ := h2
      exact ⟨x, d.inR hx, (oR x hx).trans e⟩
    | some b =>
      refine ⟨fun x hx => ?_, (d.cov m1 m2).mpr ⟨h1.2.1.mono (Nat.le_max_left _ _), h2.2.1.mono (Nat.le_max_right _ _)⟩, fun j hj c => ?_⟩
      · by_cases c : x ∈ E1
        · rw [oL x c]; exact h1.1 x c
        · have e := d.cut x hx
          rw [mem_f.mpr c] at e
          have c2 : x ∈ E2 := mem_t.mp (by simpa using e)
          rw [oR x c2]; exact h2.1 x c2
      · obtain ⟨c1, c2⟩ := (d.cov m1 m2).mp c
        by_cases h : j < a
        · exact h1.2.2 j h c1
        · exact h2.2.2 j (by omega) c2
theorem pack_zero (m : Mat E r) (h : BF.rho E r full = 0) (k : Nat) : PackOK E r k := fun X => by
  have : BF.rho E r (fun _ => true) = 0 := h
  rw [this, Nat.zero_sub, Nat.mul_zero]; exact Nat.zero_le _
theorem Side.most (d : Side E E1 E2) (m1 : Mat E1 r1) (m2 : Mat E2 r2) {a b : Option Nat} (h1 : MostIs E1 r1 a) (h2 : MostIs E2 r2 b) : MostIs E (rSum E1 E2 r1 r2) (sideMost a b) := by
  have w := d.rho (r1 := r1) (r2 := r2) full
  cases a with
  | none =>
    have z : BF.rho E1 r1 full = 0 := h1
    cases b with
    | none =>
      have z2 : BF.rho E2 r2 full = 0 := h2
      show BF.rho E (rSum E1 E2 r1 r2) full = 0
      omega
    | some b =>
      refine ⟨?_, (d.pack m1 m2).mpr ⟨pack_zero m1 z b, h2.2.1⟩, fun c => h2.2.2 ((d.pack m1 m2).mp c).2⟩
      have := h2.1
      omega
  | some a =>
    cases b with
    | none =>
      have z2 : BF.rho E2 r2 full = 0 := h2
      refine ⟨?_, (d.pack m1 m2).mpr ⟨h1.2.1, pack_zero m2 z2 a⟩, fun c => h1.2.2 ((d.pack m1 m2).mp c).1⟩
      have := h1.1
      omega
    | some b =>
      refine ⟨?_, (d.pack m1 m2).mpr ⟨h1.2.1.mono (Nat.min_le_left _ _), h2.2.1.mono (Nat.min_le_right _ _)⟩, fun c => ?_⟩
      · have := h1.1
        omega
      · obtain ⟨c1, c2⟩ := (d.pack m1 m2).mp c
        by_cases h : a ≤ b
        · rw [Nat.min_eq_left h] at c1; exact h1.2.2 c1
        · rw [Nat.min_eq_right (by omega)] at c2; exact h2.2.2 c2
end
/-! ### the rank by bases -/
/-- Bs are the bases, told as sublists of E -/
structure Bases (E : List α) (r : List α → Nat) (Bs : List (List α)) : Prop where
  sub : ∀ B ∈ Bs, B.Sublist E
  free : ∀ B ∈ Bs, r B = B.length
  top : ∀ B ∈ Bs, B.length = rho E r full
  all : ∀ p, Fr E r p → crd E p = rho E r full → E.filter p ∈ Bs
theorem rho_mem (m : Mat E r) {l : List α} (s : l.Sublist E) : rho E r (mem l) = r l := by unfold rho; rw [filter_sub m.nd s]
theorem Bases.some (m : Mat E r) {Bs : List (List α)} (b : Bases E r Bs) {l : List α} (s : l.Sublist E) : ∃ B ∈ Bs, (l.filter (mem B)).length = r l := by
  obtain ⟨q, q1, q2, q3⟩ := m.base (mem l)
  obtain ⟨c, c1, c2, c3, c4⟩ := m.extend (q := full) q2 fun _ _ _ => rfl
  refine ⟨E.filter c, b.all c c3 c4, ?_⟩
  have e : (l.filter (mem (E.filter c))).length = crd E (pand c (mem l)) := by
    unfold crd
    conv => lhs; rw [← filter_sub m.nd s, List.filter_filter]
    congr 1
    refine List.filter_congr fun x hx => ?_
    unfold pand
    have : mem (E.filter c) x = c x := by
      cases h : c x with
      | true => exact mem_t.mpr (List.mem_filter.mpr ⟨hx, h⟩)
      | false => exact mem_f.mpr fun q => by rw [(List.mem_filter.mp q).2] at h; cases h
    rw [this]
  rw [e, ← rho_mem m s]
  refine Nat.le_antisymm (m.top _ _ (fun x _ h => (pand_t.mp h).2) (m.hered _ c (fun x _ h => (pand_t.mp h).1) c3)) ?_
  rw [← q3]
  exact crd_mono fun x hx h => pand_t.mpr ⟨c1 x hx h, q1 x hx h⟩
theorem Bases.none_more (m : Mat E r) {Bs : List (List α)} (b : Bases E r Bs) {l : List α} (s : l.Sublist E) {B : List α} (hB : B ∈ Bs) : (l.filter (mem B)).length ≤ r l := by
  have e : (l.filter (mem B)).length = crd E (pand (mem B) (mem l)) := by
    unfold crd
    conv => lhs; rw [← filter_sub m.nd s, List.filter_filter]
    rfl
  have fB : Fr E r (mem B) := by
    have := b.free B hB
    unfold Fr
    rw [crd_sub m.nd (b.sub B hB), filter_sub m.nd (b.sub B hB)]; exact this
  rw [e, ← rho_mem m s]
  exact m.top _ _ (fun x _ h => (pand_t.mp h).2) (m.hered _ (mem B) (fun x _ h => (pand_t.mp h).1) fB)
theorem Bases.isFr (m : Mat E r) {Bs : List (List α)} (b : Bases E r Bs) {B : List α} (hB : B ∈ Bs) : Fr E r (mem B) ∧ crd E (mem B) = rho E r full := by
  have e := crd_sub m.nd (b.sub B hB)
  refine ⟨?_, e.trans (b.top B hB)⟩
  unfold Fr
  rw [e, filter_sub m.nd (b.sub B hB)]; exact b.free B hB
/-- an exchange of two bases -/
theorem Bases.swap (m : Mat E r) {Bs : List (List α)} (b : Bases E r Bs) {B C : List α} (hB : B ∈ Bs) (hC : C ∈ Bs) {x : α} (hx : x ∈ B) (hn : x ∉ C) : ∃ y, y ∈ C ∧ y ∉ B ∧ E.filter (pin (pdel (mem B) x) y) ∈ Bs := by
  obtain ⟨b1, b2⟩ := b.isFr m hB
  obtain ⟨c1, c2⟩ := b.isFr m hC
  have hxE := (b.sub B hB).subset hx
  have k1 := crd_pdel m.nd hxE (mem_t.mpr hx)
  obtain ⟨y, hy, y1, y2, y3⟩ := m.exch (pdel (mem B) x) (mem C) (m.hered _ (mem B) (fun z _ h => (pdel_t.mp h).1) b1) c1 (by omega)
  have yC := mem_t.mp y1
  have yB : y ∉ B := by
    rcases pdel_f.mp y2 with q | q
    · exact mem_f.mp q
    · subst q; exact absurd yC hn
  have k2 := crd_pin m.nd hy y2
  exact ⟨y, yC, yB, b.all _ y3 (by omega)⟩
end
end BF
set_option linter.all false
/-! From closures to families: webs and rows over two. -/
namespace BF
section
variable {α : Type} [DecidableEq α]
structure Clo (cl : List α → α → Prop) : Prop where
  refl : ∀ {l x}, x ∈ l → cl l x
  trans : ∀ {l m x}, (∀ y ∈ l, cl m y) → cl l x → cl m x
  exch : ∀ {l x y}, cl (y :: l) x → ¬ cl l x → cl (x :: l) y
variable {cl : List α → α → Prop}
theorem Clo.mono (c : Clo cl) {l m : List α} {x : α} (s : ∀ y ∈ l, y ∈ m) (h : cl l x) : cl m x := c.trans (fun y hy => c.refl (s y hy)) h

open Classical in
noncomputable def rkA (cl : List α → α → Prop) : List α → List α → Nat
  | _, [] => 0
  | pre, x :: l => (if cl pre x then 0 else 1) + rkA cl (x :: pre) l
open Classical in
noncomputable def kept (cl : List α → α → Prop) : List α → List α → List α
  | _, [] => []
  | pre, x :: l => if cl pre x then kept cl (x :: pre) l else x :: kept cl (x :: pre) l
noncomputable abbrev rk (cl : List α → α → Prop) : List α → Nat := rkA cl []
def IndR (cl : List α → α → Prop) : List α → Prop
  | [] => True
  | x :: l => ¬ cl l x ∧ IndR cl l
def IndP (cl : List α → α → Prop) (l : List α) : Prop := ∀ m, (∀ x ∈ l, cl m x) → l.length ≤ m.length
def indA (cl : List α → α → Prop) : List α → List α → Prop
  | _, [] => True
  | pre, x :: l => ¬ cl pre x ∧ indA cl (x :: pre) l
theorem rkA_le : ∀ (l pre : List α), rkA cl pre l ≤ l.length
  | [], _ => Nat.le_refl _
  | x :: l, pre => by
    have := rkA_le l (x :: pre)
    unfold rkA
    rw [List.length_cons]
    split <;> omega
theorem rkA_full : ∀ (l pre : List α), rkA cl pre l = l.length ↔ indA cl pre l
  | [], _ => ⟨fun _ => trivial, fun _ => rfl⟩
  | x :: l, pre => by
    have ih := rkA_full l (x :: pre)
    have le := rkA_le (cl := cl) l (x :: pre)
    unfold rkA indA
    rw [List.length_cons]
    split
    · rename_i h
      exact ⟨fun q => by omega, fun q => absurd h q.1⟩
    · rename_i h
      exact ⟨fun q => ⟨h, ih.mp (by omega)⟩, fun q => by have := ih.mpr q.2; omega⟩
theorem kept_len : ∀ (l pre : List α), (kept cl pre l).length = rkA cl pre l
  | [], _ => rfl
  | x :: l, pre => by
    have ih := kept_len l (x :: pre)
    unfold kept rkA
    split
    · rw [ih]; omega
    · rw [List.length_cons, ih]; omega
theorem kept_sub : ∀ (l pre : List α), (kept cl pre l).Sublist l
  | [], _ => .slnil
  | x :: l, pre => by
    have ih := kept_sub l (x :: pre)
    unfold kept
    split
    · exact .cons _ ih
    · exact .cons_cons _ ih
theorem kept_ok (c : Clo cl) : ∀ (l pre kp : List α), (∀ y, cl pre y ↔ cl kp y) → IndR cl kp → IndR cl ((kept cl pre l).reverse ++ kp) ∧ ∀ x ∈ l, cl ((kept cl pre l).reverse ++ kp) x
  | [], _, kp, _, h => ⟨h, fun x hx => by simp at hx⟩
  | x :: l, pre, kp, e, h => by
    unfold kept
    split
    · rename_i hx
      have e' : ∀ y, cl (x :: pre) y ↔ cl kp y := fun y => by
        rw [← e y]
        refine ⟨fun q => c.trans (fun z hz => ?_) q, fun q => c.mono (fun z hz => List.mem_cons_of_mem _ hz) q⟩
        rcases List.mem_cons.mp hz with rfl | hz
        · exact hx
        · exact c.refl hz
      obtain ⟨a, b⟩ := kept_ok c l (x :: pre) kp e' h
      refine ⟨a, fun y hy => ?_⟩
      rcases List.mem_cons.mp hy with rfl | hy
      · exact c.mono (fun z hz => List.mem_append_right _ hz) ((e _).mp hx)
      · exact b y hy
    · rename_i hx
      have e' : ∀ y, cl (x :: pre) y ↔ cl (x :: kp) y := fun y => by
        constructor
        · refine fun q => c.trans (fun z hz => ?_) q
          rcases List.mem_cons.mp hz with rfl | hz
          · exact c.refl List.mem_cons_self
          · exact c.mono (fun u hu => List.mem_cons_of_mem _ hu) ((e z).mp (c.refl hz))
        · refine fun q => c.trans (fun z hz => ?_) q
          rcases List.mem_cons.mp hz with rfl | hz
          · exact c.refl List.mem_cons_self
          · exact c.mono (fun u hu => List.mem_cons_of_mem _ hu) ((e z).mpr (c.refl hz))
      obtain ⟨a, b⟩ := kept_ok c l (x :: pre) (x :: kp) e' ⟨fun q => hx ((e _).mpr q), h⟩
      rw [List.reverse_cons, List.append_assoc]
      refine ⟨a, fun y hy => ?_⟩
      rcases List.mem_cons.mp hy with rfl | hy
      · exact c.refl (List.mem_append_right _ (List.mem_append_left _ (by simp)))
      · exact b y hy
/-- where x comes into the closure -/
theorem Clo.enters (c : Clo cl) {l : List α} {x : α} : ∀ (m a : List α), ¬ cl (a ++ l) x → cl (m.reverse ++ (a ++ l)) x → ∃ z m1 m2, m = m1 ++ z :: m2 ∧ cl (x :: (m1.reverse ++ (a ++ l))) z
  | [], a, h1, h2 => absurd (by simpa using h2) h1
  | z :: m, a, h1, h2 => by
    by_cases q : cl (z :: (a ++ l)) x
    · exact ⟨z, [], m, rfl, by simpa using c.exch q h1⟩
    · have h3 : cl (m.reverse ++ ((z :: a) ++ l)) x := by
        rw [List.reverse_cons, List.append_assoc] at h2
        exact h2
      obtain ⟨y, m1, m2, e, h⟩ := c.enters m (z :: a) q h3
      refine ⟨y, z :: m1, m2, by rw [e]; rfl, ?_⟩
      rw [List.reverse_cons, List.append_assoc]
      exact h
theorem steinitz0 (c : Clo cl) (m : List α) : ∀ l : List α, IndR cl l → (∀ x ∈ l, cl m x) → ∃ m' : List α, m'.length + l.length ≤ m.length ∧ ∀ y, cl m y → cl (m' ++ l) y
  | [], _, _ => ⟨m, by simp, fun y h => by simpa using h⟩
  | x :: l, h, hm => by
    obtain ⟨m', h1, h2⟩ := steinitz0 c m l h.2 fun y hy => hm y (List.mem_cons_of_mem _ hy)
    have hx : cl (m'.reverse ++ ([] ++ l)) x := c.mono (fun z hz => by simpa using hz) (h2 x (hm x List.mem_cons_self))
    obtain ⟨z, a, b, e, hz⟩ := c.enters m' [] (by simpa using h.1) hx
    refine ⟨a ++ b, ?_, fun y hy => ?_⟩
    · rw [e] at h1
      simp only [List.length_append, List.length_cons] at h1 ⊢
      omega
    · refine c.trans (fun u hu => ?_) (h2 y hy)
      rw [e] at hu
      have key : ∀ v, v ∈ a ∨ v ∈ b ∨ v ∈ l → cl (a ++ b ++ x :: l) v := fun v hv => c.refl (by
        rcases hv with hv | hv | hv <;> simp [hv])
      rcases List.mem_append.mp hu with hu | hu
      · rcases List.mem_append.mp hu with hu | hu
        · exact key u (.inl hu)
        · rcases List.mem_cons.mp hu with rfl | hu
          · refine c.mono (fun v hv => ?_) hz
            simp at hv
            simp
            rcases hv with hv | hv | hv
            · exact .inr (.inr (.inl hv))
            · exact .inl hv
            · exact .inr (.inr (.inr hv))
          · exact key u (.inr (.inl hu))
      · exact key u (.inr (.inr hu))
theorem steinitz (c : Clo cl) {l : List α} (h : IndR cl l) : IndP cl l := fun m hm => by
  obtain ⟨_, h1, _⟩ := steinitz0 c m l h hm
  omega
theorem IndR.sub (c : Clo cl) : ∀ {l m : List α}, l.Sublist m → IndR cl m → IndR cl l
  | _, _, .slnil, h => h
  | _, _, .cons _ s, h => IndR.sub c s h.2
  | _, _, .cons_cons _ s, h => ⟨fun q => h.1 (c.mono (fun y hy => s.subset hy) q), IndR.sub c s h.2⟩
theorem rk_indP (c : Clo cl) {l : List α} : rk cl l = l.length ↔ IndP cl l := by
  constructor
  · intro h
    have e : kept cl [] l = l := (kept_sub l []).eq_of_length (by rw [kept_len]; exact h)
    have k := (kept_ok c l [] [] (fun _ => Iff.rfl) trivial).1
    rw [e, List.append_nil] at k
    have := steinitz c k
    intro m hm
    rw [← List.length_reverse]
    exact this m fun x hx => hm x (List.mem_reverse.mp hx)
  · intro h
    have k := (kept_ok c l [] [] (fun _ => Iff.rfl) trivial).2
    have := h (kept cl [] l) fun x hx => c.mono (fun y hy => by simpa using hy) (k x hx)
    rw [kept_len] at this
    exact Nat.le_antisymm (rkA_le l []) this
theorem rk_indR (c : Clo cl) {l : List α} (h : rk cl l = l.length) : IndR cl l.reverse := by
  have e : kept cl [] l = l := (kept_sub l []).eq_of_length (by rw [kept_len]; exact h)
  have k := (kept_ok c l [] [] (fun _ => Iff.rfl) trivial).1
  rw [e, List.append_nil] at k
  exact k
theorem Clo.mat (c : Clo cl) {E : List α} (nd : E.Nodup) : Mat E (rk cl) where
  nd := nd
  hered := fun p q s h => by
    have k := rk_indR c (l := E.filter q) h
    have s' : (E.filter p).Sublist (E.filter q) := by
      have : E.filter p = (E.filter q).filter p := by
        rw [List.filter_filter]
        exact List.filter_congr fun x hx => by
          cases e : p x with
          | false => rfl
          | true => rw [s x hx e]; rfl
      rw [this]
      exact List.filter_sublist
    exact (rk_indP c).mpr fun m hm => by
      rw [← List.length_reverse]
      exact steinitz c (IndR.sub c s'.reverse k) m fun x hx => hm x (List.mem_reverse.mp hx)
  exch := fun p q hp hq hc => by
    apply Classical.byContradiction
    intro n
    have k := rk_indR c (l := E.filter p) hp
    have all : ∀ x ∈ E.filter q, cl (E.filter p) x := fun x hx => by
      apply Classical.byContradiction
      intro nx
      obtain ⟨h1, h2⟩ := List.mem_filter.mp hx
      have h3 : p x = false := by
        cases e : p x with
        | false => rfl
        | true => exact absurd (c.refl (List.mem_filter.mpr ⟨h1, e⟩)) nx
      refine n ⟨x, h1, h2, h3, (rk_indP c).mpr fun m hm => ?_⟩
      have k2 : IndR cl (x :: (E.filter p).reverse) := ⟨fun z => nx (c.mono (fun y hy => List.mem_reverse.mp hy) z), k⟩
      have := steinitz c k2 m fun y hy => by
        rcases List.mem_cons.mp hy with rfl | hy
        · exact hm _ (List.mem_filter.mpr ⟨h1, pin_t.mpr (.inr rfl)⟩)
        · obtain ⟨u, v⟩ := List.mem_filter.mp (List.mem_reverse.mp hy)
          exact hm _ (List.mem_filter.mpr ⟨u, pin_t.mpr (.inl v)⟩)
      rw [List.length_cons, List.length_reverse] at this
      have e := crd_pin nd h1 h3
      unfold crd at e
      omega
    have := (rk_indP c).mp hq (E.filter p) all
    unfold crd at hc
    omega
  base := fun p => by
    have k := kept_ok c (E.filter p) [] [] (fun _ => Iff.rfl) trivial
    have s1 : (kept cl [] (E.filter p)).Sublist (E.filter p) := kept_sub _ _
    have s2 := s1.trans (List.filter_sublist (l := E) (p := p))
    refine ⟨mem (kept cl [] (E.filter p)), fun x _ h => (List.mem_filter.mp (s1.subset (mem_t.mp h))).2, ?_, ?_⟩
    · unfold Fr
      rw [crd_sub nd s2, filter_sub nd s2]
      refine (rk_indP c).mpr fun m hm => ?_
      have := steinitz c k.1 m fun x hx => hm x (by simpa using hx)
      simpa using this
    · rw [crd_sub nd s2, kept_len]
  top := fun p q s h => by
    have k := kept_ok c (E.filter p) [] [] (fun _ => Iff.rfl) trivial
    have := (rk_indP c).mp h (kept cl [] (E.filter p)) fun x hx => by
      obtain ⟨h1, h2⟩ := List.mem_filter.mp hx
      exact c.mono (fun y hy => by simpa using hy) (k.2 x (List.mem_filter.mpr ⟨h1, s x h1 h2⟩))
    rw [kept_len] at this
    exact this

/-! ### webs -/
section
variable {β : Type}
def Conn (e : α → β × β) : List α → β → β → Prop
  | [], a, b => a = b
  | t :: l, a, b => Conn e l a b ∨ (Conn e l a (e t).1 ∧ Conn e l (e t).2 b) ∨ (Conn e l a (e t).2 ∧ Conn e l (e t).1 b)
variable {e : α → β × β}
theorem Conn.refl : ∀ (l : List α) (a : β), Conn e l a a
  | [], _ => rfl
  | _ :: l, a => .inl (Conn.refl l a)
theorem Conn.symm : ∀ {l : List α} {a b : β}, Conn e l a b → Conn e l b a
  | [], a, b, h => Eq.symm (show a = b from h)
  | _ :: l, _, _, h => by
    rcases h with h | ⟨h1, h2⟩ | ⟨h1, h2⟩
    · exact .inl (Conn.symm h)
    · exact .inr (.inr ⟨Conn.symm h2, Conn.symm h1⟩)
    · exact .inr (.inl ⟨Conn.symm h2, Conn.symm h1⟩)
theorem Conn.trans : ∀ {l : List α} {a b c : β}, Conn e l a b → Conn e l b c → Conn e l a c
  | [], a, b, c, h1, h2 => Eq.trans (show a = b from h1) (show b = c from h2)
  | t :: l, a, b, c, h1, h2 => by
    have T : ∀ {x y z : β}, Conn e l x y → Conn e l y z → Conn e l x z := fun p q => Conn.trans p q
    rcases h1 with h1 | ⟨h1, h1'⟩ | ⟨h1, h1'⟩
    · rcases h2 with h2 | ⟨h2, h2'⟩ | ⟨h2, h2'⟩
      · exact .inl (T h1 h2)
      · exact .inr (.inl ⟨T h1 h2, h2'⟩)
      · exact .inr (.inr ⟨T h1 h2, h2'⟩)
    · rcases h2 with h2 | ⟨h2, h2'⟩ | ⟨h2, h2'⟩
      · exact .inr (.inl ⟨h1, T h1' h2⟩)
      · exact .inr (.inl ⟨h1, h2'⟩)
      · exact .inl (T h1 h2')
    · rcases h2 with h2 | ⟨h2, h2'⟩ | ⟨h2, h2'⟩
      · exact .inr (.inr ⟨h1, T h1' h2⟩)
      · exact .inl (T h1 h2')
      · exact .inr (.inr ⟨h1, h2'⟩)
theorem Conn.tie {t : α} : ∀ {l : List α}, t ∈ l → Conn e l (e t).1 (e t).2
  | u :: l, h => by
    rcases List.mem_cons.mp h with rfl | h
    · exact .inr (.inl ⟨Conn.refl _ _, Conn.refl _ _⟩)
    · exact .inl (Conn.tie h)
theorem Conn.least {R : β → β → Prop} (h1 : ∀ a, R a a) (h2 : ∀ {a b}, R a b → R b a) (h3 : ∀ {a b c}, R a b → R b c → R a c) : ∀ {l : List α} {a b : β}, (∀ t ∈ l, R (e t).1 (e t).2) → Conn e l a b → R a b
  | [], a, _, _, h => by cases h; exact h1 a
  | t :: l, a, b, ht, h => by
    have ih : ∀ {a b : β}, Conn e l a b → R a b := fun q => Conn.least h1 h2 h3 (fun u hu => ht u (List.mem_cons_of_mem _ hu)) q
    have tt := ht t List.mem_cons_self
    rcases h with h | ⟨p, q⟩ | ⟨p, q⟩
    · exact ih h
    · exact h3 (ih p) (h3 tt (ih q))
    · exact h3 (ih p) (h3 (h2 tt) (ih q))
def clW (e : α → β × β) : List α → α → Prop := fun l t => Conn e l (e t).1 (e t).2
theorem clo_web (e : α → β × β) : Clo (clW e) where
  refl := fun h => Conn.tie h
  trans := fun h q => Conn.least (R := Conn e _) (Conn.refl _) Conn.symm Conn.trans h q
  exch := fun {l x y} h n => by
    rcases h with h | ⟨h1, h2⟩ | ⟨h1, h2⟩
    · exact absurd h n
    · exact .inr (.inl ⟨h1.symm, h2.symm⟩)
    · exact .inr (.inr ⟨h2, h1⟩)
end
/-! ### rows over two -/
def Spn (w : α → Nat) : List α → Nat → Prop
  | [], v => v = 0
  | t :: l, v => Spn w l v ∨ Spn w l (v ^^^ w t)
section
variable {w : α → Nat}
theorem Spn.zero : ∀ l : List α, Spn w l 0
  | [] => rfl
  | _ :: l => .inl (Spn.zero l)
theorem Spn.add : ∀ {l : List α} {u v : Nat}, Spn w l u → Spn w l v → Spn w l (u ^^^ v)
  | [], _, _, h1, h2 => by
    have h1 : _ = 0 := h1
    have h2 : _ = 0 := h2
    subst h1; subst h2
    show 0 ^^^ 0 = 0
    rfl
  | t :: l, u, v, h1, h2 => by
    rcases h1 with h1 | h1
    · rcases h2 with h2 | h2
      · exact .inl (Spn.add h1 h2)
      · refine .inr ?_
        rw [Nat.xor_assoc]; exact Spn.add h1 h2
    · rcases h2 with h2 | h2
      · refine .inr ?_
        have := Spn.add h1 h2
        rw [Nat.xor_assoc, Nat.xor_comm (w t) v, ← Nat.xor_assoc] at this
        exact this
      · refine .inl ?_
        have := Spn.add h1 h2
        have e : (u ^^^ w t) ^^^ (v ^^^ w t) = u ^^^ v := by
          rw [Nat.xor_comm v, Nat.xor_assoc, ← Nat.xor_assoc (w t) (w t), Nat.xor_self, Nat.zero_xor]
        rw [e] at this
        exact this
theorem Spn.gen {t : α} : ∀ {l : List α}, t ∈ l → Spn w l (w t)
  | u :: l, h => by
    rcases List.mem_cons.mp h with rfl | h
    · refine .inr ?_
      rw [Nat.xor_self]; exact Spn.zero l
    · exact .inl (Spn.gen h)
theorem Spn.least {R : Nat → Prop} (h0 : R 0) (ha : ∀ {u v}, R u → R v → R (u ^^^ v)) : ∀ {l : List α} {v : Nat}, (∀ t ∈ l, R (w t)) → Spn w l v → R v
  | [], v, _, h => by
    have h : v = 0 := h
    rw [h]; exact h0
  | t :: l, v, ht, h => by
    have ih : ∀ {v : Nat}, Spn w l v → R v := fun q => Spn.least h0 ha (fun u hu => ht u (List.mem_cons_of_mem _ hu)) q
    rcases h with h | h
    · exact ih h
    · have := ha (ih h) (ht t List.mem_cons_self)
      rw [Nat.xor_assoc, Nat.xor_self, Nat.xor_zero] at this
      exact this
end
def clR (w : α → Nat) : List α → α → Prop := fun l t => Spn w l (w t)
theorem clo_rows (w : α → Nat) : Clo (clR w) where
  refl := fun h => Spn.gen h
  trans := fun h q => Spn.least (R := Spn w _) (Spn.zero _) Spn.add h q
  exch := fun {l x y} h n => by
    rcases h with h | h
    · exact absurd h n
    · refine .inr ?_
      show Spn w l (w y ^^^ w x)
      rw [Nat.xor_comm]; exact h
end
end BF
set_option Elab.async false
set_option linter.all false
set_option maxRecDepth 100000
set_option maxHeartbeats 4000000
/-! Heaps: what a comprehension leaves, told by a relation. -/
namespace BF
open PySem PySem.Spec PyProof.Rows L2

/-- steps of the heap from H0 on -/
structure Frm (R : Hp → Hp → Prop) (H0 : Hp) : Prop where
  refl : R H0 H0
  trans : ∀ {H1 H2 : Hp}, R H0 H1 → R H1 H2 → R H0 H2
  put : ∀ {H1 : Hp} {p : Addr} {o : HO}, R H0 H1 → H0 p = none → R H0 (upd H1 p o)
  keep : ∀ {H1 H2 : Hp} {p : Addr} {l : List V}, R H0 H1 → R H1 H2 → H0 p = none → H1 p = some (.lst l) → H2 p = some (.lst l)
theorem same_new {H : Hp} {p : Addr} {o : HO} (h : H p = none) : Same H (upd H p o) := fun a u e => by
  rw [upd_ne (ne_of_none e h)]; exact e
theorem same_put {H H1 : Hp} {p : Addr} {o : HO} (s : Same H H1) (h : H p = none) : Same H (upd H1 p o) := fun a u e => by
  rw [upd_ne (ne_of_none e h)]; exact s a u e
theorem same_frm (H : Hp) : Frm Same H := ⟨Same.refl H, fun a b => a.trans b, fun a h => same_put a h, fun _ b _ h => b _ _ h⟩
theorem same_seqT {K : PySem.W.Frag} {H H' : Hp} {a : Addr} {xs : List V} (e : Same H H') (h : SqT K H a xs) : SqT K H' a xs := by
  rcases h with (h | ⟨o, h⟩) | h
  · exact .inl (.inl (e _ _ h))
  · exact .inl (.inr ⟨o, e _ _ h⟩)
  · exact .inr h
/-- the places that a test keeps -/
def picks (n : Nat) (f : Nat → Bool) : List Nat := (List.range n).filter f
theorem picks_yes {n : Nat} {f : Nat → Bool} (h : f n = true) : picks (n + 1) f = picks n f ++ [n] := by
  unfold picks; rw [List.range_succ, List.filter_append, List.filter_cons, if_pos h]; rfl
theorem picks_no {n : Nat} {f : Nat → Bool} (h : f n = false) : picks (n + 1) f = picks n f := by
  unfold picks; rw [List.range_succ, List.filter_append, List.filter_cons, if_neg (by rw [h]; simp)]; simp
theorem picks_len (n : Nat) (f : Nat → Bool) : (picks n f).length ≤ n := by
  unfold picks; exact Nat.le_trans (List.length_filter_le _ _) (by simp)
theorem picks_all (n : Nat) : picks n (fun _ => true) = List.range n := by
  unfold picks; rw [List.filter_eq_self]; intro _ _; rfl
theorem map_range' {β γ : Type} (g : β → γ) (d : β) : ∀ xs : List β, (List.range xs.length).map (fun i => g (xs.getD i d)) = xs.map g := fun xs => by
  apply List.ext_getElem?
  intro i
  rw [List.getElem?_map, List.getElem?_map]
  by_cases h : i < xs.length
  · rw [List.getElem?_range h, List.getElem?_eq_getElem h]
    simp [h]
  · rw [List.getElem?_eq_none (by simpa using h), List.getElem?_eq_none (by simpa using h)]; rfl
theorem picks_filter {β γ : Type} (g : β → γ) (d : β) (p : β → Bool) : ∀ xs : List β, (picks xs.length fun i => p (xs.getD i d)).map (fun i => g (xs.getD i d)) = (xs.filter p).map g := by
  intro xs
  unfold picks
  have e : (List.range xs.length).map (fun i => xs.getD i d) = xs := by
    have := map_range' (fun x : β => x) d xs
    simpa using this
  have e2 : ((List.range xs.length).filter fun i => p (xs.getD i d)).map (fun i => xs.getD i d) = xs.filter p := by
    conv => rhs; rw [← e]
    rw [List.filter_map]; rfl
  rw [← e2, List.map_map]; rfl
theorem Paired.snoc {β γ : Type} {F : β → γ → Prop} : ∀ {xs : List β} {ys : List γ} {x : β} {y : γ}, Paired F xs ys → F x y → Paired F (xs ++ [x]) (ys ++ [y])
  | _, _, _, _, .nil, h => .cons h .nil
  | _, _, _, _, .cons a t, h => .cons a (Paired.snoc t h)
theorem Paired.imp {β γ : Type} {F G : β → γ → Prop} (h : ∀ a b, F a b → G a b) : ∀ {xs : List β} {ys : List γ}, Paired F xs ys → Paired G xs ys
  | _, _, .nil => .nil
  | _, _, .cons a t => .cons (h _ _ a) (Paired.imp h t)
theorem Paired.fn {β γ : Type} {g : β → γ} : ∀ {xs : List β} {ys : List γ}, Paired (fun a b => b = g a) xs ys → ys = xs.map g
  | _, _, .nil => rfl
  | _, _, .cons a t => by rw [List.map_cons, a, Paired.fn t]

section
variable {K : PySem.W.Frag} {R : Hp → Hp → Prop} {H0 : Hp} {σ : L2.St} {j : Nat} {vs : List Nat} {tt : TT} {te : TE} {Q : VK}
/-- a comprehension over what is walked: J's items are the xs, the heap stays as it is when one is taken -/
structure Src (J : It) (xs : List V) (R : Hp → Hp → Prop) (H0 : Hp) : Prop where
  go : ∀ i H, i < xs.length → R H0 H → J.go i H
  stop : ∀ H, R H0 H → J.stop xs.length H
  yld : ∀ i H x H', i < xs.length → R H0 H → J.yld i H x H' → H' = H ∧ xs[i]? = some x
theorem src_list {a : Addr} {xs : List V} (h : ∀ H, R H0 H → SqL K H a xs) : Src (Itl K a) xs R H0 :=
  ⟨fun i H hi r => ⟨xs, xs[i], h H r, by simp [hi]⟩, fun H r => ⟨xs, h H r, Nat.le_refl _⟩, fun i H x H' _ r y => ⟨y.1, y.2 xs (h H r)⟩⟩
theorem src_tup {a : Addr} {xs : List V} (h : ∀ H, R H0 H → SqT K H a xs) : Src (Itt K a) xs R H0 :=
  ⟨fun i H hi r => ⟨xs, xs[i], h H r, by simp [hi]⟩, fun H r => ⟨xs, h H r, Nat.le_refl _⟩, fun i H x H' _ r y => ⟨y.1, y.2 xs (h H r)⟩⟩
theorem src_rng {n : Nat} : Src (Itr 0 n) ((List.range n).map fun i : Nat => V.int ((i : Nat) : Int)) R H0 :=
  ⟨fun i H hi _ => by show i < n; simpa using hi, fun H _ => by show n ≤ _; simp, fun i H x H' hi _ y => ⟨y.1, by
    have hi' : i < n := by simpa using hi
    rw [List.getElem?_map, List.getElem?_range hi', y.2]; simp⟩⟩
/-- [e for x in xs if t]: D holds one item for each place that the test keeps -/
theorem lcJ {J : It} {xs : List V} {H1 : Hp} {D : Addr} {Qd : Hp → Prop} (F : Frm R H0) (S : Src J xs R H0) (f : Nat → Bool) (P : Addr → Nat → V → Hp → Prop) (hz : xs.length ≤ 1000000)
    (st1 : ∀ i v H1 H2, R H0 H1 → P D i v H1 → R H1 H2 → P D i v H2) (st2 : ∀ i v H1 l l', P D i v H1 → H1 D = some (.lst l) → P D i v (upd H1 D (.lst l')))
    (hw : ∀ x, wipe ((wipe σ vs).set j (some x)) vs = wipe σ vs) (hD : H0 D = none) (h1 : R H0 (upd H1 D (.lst [])))
    (ht : ∀ i x H1 (Qb : Bool → Hp → Prop), xs[i]? = some x → R H0 H1 → (∀ H2, R H1 H2 → Qb (f i) H2) → tt ((wipe σ vs).set j (some x)) H1 Qb)
    (he : ∀ i x H1 (Qv : VK), xs[i]? = some x → f i = true → R H0 H1 → (∀ v H2, R H1 H2 → P D i v H2 → Qv v H2) → te ((wipe σ vs).set j (some x)) H1 Qv)
    (hd : ∀ H us, R H0 H → H D = some (.lst us) → Paired (fun i v => P D i v H) (picks xs.length f) us → Qd H) :
    ∃ W : Nat → Nat → Hp → Prop, (∃ m, W 0 m (upd H1 D (.lst []))) ∧ ∀ i m H, W i m H →
      (J.stop i H ∧ Qd H) ∨ (J.go i H ∧ ∃ Nx : Hp → Prop, (∀ H', Nx H' → ∃ m', m' < m ∧ W (i + 1) m' H') ∧ ∀ x H', J.yld i H x H' → gName j x (wipe σ vs) H' fun σ2 H2 => wipe σ2 vs = wipe σ vs ∧ tt σ2 H2 fun b H3 =>
        if b = true then te σ2 H3 fun y H4 => ∃ acc, H4 D = some (.lst acc) ∧ acc.length < sizeLine ∧ Nx (upd H4 D (.lst (acc ++ [y]))) else Nx H3) := by
  have big : (1000000 : Nat) < sizeLine := by decide
  let Pv : Nat → Hp → Prop := fun i H => R H0 H ∧ ∃ us, H D = some (.lst us) ∧ Paired (fun i v => P D i v H) (picks i f) us
  refine ⟨fun i m H => m = xs.length - i ∧ i ≤ xs.length ∧ Pv i H, ⟨xs.length, by simp, Nat.zero_le _, h1, [], upd_same, .nil⟩, ?_⟩
  rintro i m H ⟨rfl, hi, r, us, hu, pu⟩
  by_cases hlt : i < xs.length
  · refine .inr ⟨S.go i H hlt r, Pv (i + 1), fun H' p' => ⟨xs.length - (i + 1), by omega, rfl, hlt, p'⟩, fun x H' y => ?_⟩
    obtain ⟨e, hx⟩ := S.yld i H x H' hlt r y
    subst e
    refine ⟨hw x, ?_⟩
    refine ht i x _ _ hx r fun H2 r2 => ?_
    have u2 := F.keep r r2 hD hu
    have p2 : Paired (fun i v => P D i v H2) (picks i f) us := Paired.imp (fun a b q => st1 _ _ _ _ r q r2) pu
    cases eb : f i with
    | false =>
      rw [if_neg Bool.false_ne_true]
      exact ⟨F.trans r r2, us, u2, by rw [picks_no eb]; exact p2⟩
    | true =>
      rw [if_pos rfl]
      refine he i x _ _ hx eb (F.trans r r2) fun v H3 r3 pv => ?_
      have u3 := F.keep (F.trans r r2) r3 hD u2
      have hl : us.length ≤ i := by rw [← Paired.length pu]; exact picks_len i f
      refine ⟨us, u3, by omega, F.put (F.trans (F.trans r r2) r3) hD, us ++ [v], upd_same, ?_⟩
      rw [picks_yes eb]
      exact Paired.snoc (Paired.imp (fun a b q => st2 _ _ _ _ _ (st1 _ _ _ _ (F.trans r r2) q r3) u3) p2) (st2 _ _ _ _ _ pv u3)
  · have e : i = xs.length := by omega
    subst e
    exact .inl ⟨S.stop H r, hd H us r hu pu⟩
end
end BF
set_option Elab.async false
set_option linter.all false
set_option maxRecDepth 100000
set_option maxHeartbeats 4000000
/-! Own rules: own __contains__, own __len__, methods by name. -/
namespace BF
open PySem PySem.Spec PyProof.Rows L2
section
variable {X : Cx} {k : Nat} {C f : Addr} {fd : FuncData} {ps : List Str} {sp : Sp}
theorem run_in1 {pins : List (Addr × Obj)} {σ : L2.St} {H : Hp} {s : Shared} {Q : VK} {us : List Value} {vs : List V} (F : FnOk X.prog X.w X.K X.mg X.base CX0 k f fd ps sp) (hr : Room (k + 1) X.A) (hb : Binds X.K fd ps [])
    (I : Inv X pins σ H s) (r : Vals vs us) (h : sp vs H Q E0) : wpAny (model X.prog X.w) X.A.in1 (call (.ref f) us) (EP X pins σ Q) X.xe s := by
  have hl : (us ++ []).length = ps.length := by rw [List.append_nil, ← r.length]; exact F.len _ _ _ _ h
  refine wpAny_call (codeAny_mono (F.run X.A.in1 X.stack s H ⟨us, []⟩ (us ++ []) vs Q E0 hr.in1 I.env0.in1 (hb s us I.kIn hl) (by rw [List.append_nil]; exact r) h) fun r s' hq => ?_)
  cases r with
  | error e => exact False.elim hq
  | ok fl =>
    cases fl with
    | ret u => exact I.after hq
    | next => exact False.elim hq
    | brk => exact False.elim hq
    | cont => exact False.elim hq
theorem op_inOwn (m : Meth X.K C "__contains__" f) (F : FnOk X.prog X.w X.K X.mg X.base CX0 k f fd ps sp) (hr : Room k X.A) (hb : Binds X.K fd ps []) :
    OpR X (compareOp .In) (fun x y H Q => ∃ a dx fs, y = .ref a ∧ H a = some (.ins C dx fs) ∧ sp [.ref a, x] H (fun v H' => ∃ b, v = .bl b ∧ Q (.bl b) H') E0) := by
  intro pins s σ H x y v u Q I rx ry h
  obtain ⟨a, dx, fs, rfl, ha, hs⟩ := h
  cases ry
  obtain ⟨mf, hf⟩ := I.fr
  obtain ⟨mA, O, _, _, _, _⟩ := ins_get I.hok ha
  obtain ⟨od, J, _⟩ := O.look
  refine PySem.W.in_K hf I.mod.kin J m.at_ m.fn ?_
  refine wpAny_mono (run_fn (ds := []) (dvs := []) F hr hb .nil pass0 I (.cons (show L2.RelV (V.ref a) (Value.ref a) from rfl) (.cons rx .nil)) hs) (fun r s' hq => ?_) fun _ _ z => z
  obtain ⟨v', H', I', rv, b, rfl, q⟩ := hq
  cases rv
  show wpAny _ _ (truthy (.bool b)) _ _ _
  unfold truthy
  exact wpAny_pure ⟨.bl b, H', I', rfl, q⟩
theorem call_lenOwn (m : Meth X.K C "__len__" f) (F : FnOk X.prog X.w X.K X.mg X.base CX0 k f fd ps sp) (hr : Room (k + 1) X.A) (hb : Binds X.K fd ps []) :
    CallR X (.builtin "len") (fun xs H Q => ∃ a dx fs, xs = [.ref a] ∧ H a = some (.ins C dx fs) ∧ sp [.ref a] H (fun v H' => ∃ n, v = .int n ∧ 0 ≤ n ∧ n < 2 ^ 63 ∧ Q (.int n) H') E0) := by
  intro pins s σ H xs us Q I r h
  obtain ⟨a, dx, fs, rfl, ha, hs⟩ := h
  obtain ⟨u, rfl, ru⟩ := vals1 r
  cases ru
  obtain ⟨mf, hf⟩ := I.fr
  obtain ⟨mA, O, _, _, _, _⟩ := ins_get I.hok ha
  obtain ⟨od, J, _⟩ := O.look
  refine PySem.W.len_K hf I.mod.kin J m.at_ m.fn ?_
  refine wpAny_mono (run_in1 F hr hb I (.cons (show L2.RelV (V.ref a) (Value.ref a) from rfl) .nil) hs) (fun r s' hq => ?_) fun _ _ z => z
  obtain ⟨v', H', I', rv, n, rfl, h0, h1, q⟩ := hq
  obtain ⟨t, rfl⟩ := rv
  exact ⟨⟨h0, h1⟩, .int n, H', I'.tok _, ⟨_, rfl⟩, q⟩
end
section
variable {X : Cx}
/-- o.m(e, ..), the class by its name -/
theorem pe_mt {k : Nat} {C : Str} {m : Str} {ps : List Str} {sp : Sp} {o e : Expr} {es : List Expr} {ta : TE} {t : TA} {apos pos : Pos} {pl : Sem Bool} (he : PE X o ta) (c : Cls X.K (He.ga X.K C)) (hm : Meth X.K (He.ga X.K C) m (He.ma X.K (He.ga X.K C) m)) (G : FOk X.prog X.w X.K X.mg X.base k (C, some m) ps sp) (hr : Room k X.A) (ha : PA X (e :: es) t)
    (hst : starEach (e :: es) X.env = (false, eval e X.env) :: starEach es X.env := by rfl) (hpl : (backTo pos (starEach es X.env)).any (·.1) = false := by rfl)
    (ht : eval (.Call (.Attribute o m apos) (e :: es) [] pos) X.env = (do
      let ov ← eval o X.env
      standAt apos.atName
      let (f, first) ← holding [ov] (getMethod ov m pl)
      callWith pos f first (backTo pos (starEach (e :: es) X.env)) (backToKw pos (keywordEach [] X.env))) := by rfl) :
    PE X (.Call (.Attribute o m apos) (e :: es) [] pos) (tMeth (He.ga X.K C) m sp [] E0 ta t) := by
  obtain ⟨fd, a, b, _⟩ := G.ex
  exact pe_meth he c hm a hr b .nil pass0 ha hst hpl ht
theorem pe_mt0 {k : Nat} {C : Str} {m : Str} {ps : List Str} {sp : Sp} {o : Expr} {ta : TE} {apos pos : Pos} {pl : Sem Bool} (he : PE X o ta) (c : Cls X.K (He.ga X.K C)) (hm : Meth X.K (He.ga X.K C) m (He.ma X.K (He.ga X.K C) m)) (G : FOk X.prog X.w X.K X.mg X.base k (C, some m) ps sp) (hr : Room k X.A)
    (ht : eval (.Call (.Attribute o m apos) [] [] pos) X.env = (do
      let ov ← eval o X.env
      standAt apos.atName
      let (f, first) ← holding [ov] (getMethod ov m pl)
      callWith pos f first (backTo pos (starEach [] X.env)) (backToKw pos (keywordEach [] X.env))) := by rfl) :
    PE X (.Call (.Attribute o m apos) [] [] pos) (tMeth (He.ga X.K C) m sp [] E0 ta tNil) := by
  obtain ⟨fd, a, b, _⟩ := G.ex
  exact pe_meth0 he c hm a hr b .nil pass0 ht
theorem PE.or {e : Expr} {t u : TE} (h : PE X e t) (h' : PE X e u) : PE X e (fun σ H Q => t σ H Q ∨ u σ H Q) := ⟨fun pins s σ H Q I q => q.elim (h.run pins s σ H Q I) (h'.run pins s σ H Q I)⟩
theorem PE.false {e : Expr} : PE X e (fun _ _ _ => False) := ⟨fun pins s σ H Q I q => q.elim⟩
end
end BF
set_option Elab.async false
set_option linter.all false
set_option maxRecDepth 100000
set_option maxHeartbeats 4000000
/-! Own rules: a star of a dict, the least and greatest of two texts. -/
namespace BF
open PySem PySem.Spec PyProof.Rows L2
section
variable {X : Cx} {pins : List (Addr × Obj)} {σ : L2.St} {H : Hp} {s : Shared}
theorem collect_dK {a : Addr} {kvs : List (Key × V)} {ks : List Str} {A : Around} {E : Value → Shared → Prop} {Q : List Value → Shared → Prop} (I : Inv X pins σ H s) (hh : A.handled = none) (hd : Rd H a (.dK kvs)) (hk : kvs.map (·.1) = ks.map Sum.inr)
    (hQ : ∀ us s', Inv X pins σ H s' → Vals (ks.map V.str) us → Q us s') : wpAny (model X.prog X.w) A (collect (.ref a)) Q E s := by
  obtain ⟨z, lo, vs, rel, dd⟩ := dk_rd I.hok hd
  obtain ⟨ep, hat⟩ := dd.dictAt
  have hkeys : vs.map (·.1) = ks.map Sum.inr := rel.keys.symm.trans hk
  have hl : vs.length = ks.length := by
    have e := congrArg List.length hkeys
    rw [List.length_map, List.length_map] at e
    exact e
  have h16 : vs.length ≤ sizeLine := by rw [← rel.length]; exact z
  refine PySem.W.kdu_collect (A := A) (PySem.W.kdl_dict (knd := mixKind X.prog X.w) (kvs := vs) (ep := ep) lo) hh hat h16 fun h' tk acc hkp hacc => ?_
  have hal : acc.toList.length = ks.length := by rw [Array.length_toList, hacc.1, hl]
  refine hQ _ _ (I.kept hkp) ?_
  have go : ∀ (us : List Value) (ys : List Str), us.length = ys.length → (∀ (j : Nat) (u : Value), us[j]? = some u → ∃ y t, ys[j]? = some y ∧ u = Value.str y t) → Vals (ys.map V.str) us := by
    intro us
    induction us with
    | nil =>
      intro ys h _
      cases ys with
      | nil => exact .nil
      | cons y ys => simp at h
    | cons u us ih =>
      intro ys h g
      cases ys with
      | nil => simp at h
      | cons y ys =>
        obtain ⟨y', t, e1, e2⟩ := g 0 u rfl
        have e1 : some y = some y' := e1
        cases e1
        exact .cons ⟨t, e2⟩ (ih ys (by simpa using h) fun j u' e => g (j + 1) u' (by simpa using e))
  refine go _ _ hal fun j v e => ?_
  obtain ⟨k, x, e1, e2⟩ := hacc.2 j v (by rw [← Array.getElem?_toList]; exact e)
  have e3 : (vs.map (·.1))[j]? = some k := by rw [List.getElem?_map, e1]; all_goals rfl
  rw [hkeys, List.getElem?_map] at e3
  cases e4 : ks[j]? with
  | none => rw [e4] at e3; cases e3
  | some y =>
    rw [e4] at e3
    have e5 : Sum.inr y = k := Option.some.inj e3
    subst e5
    obtain ⟨t, ev⟩ := Value.isStrOf_shape (x := y) (v := v) e2
    exact ⟨y, t, rfl, ev⟩
theorem star_dK {a : Addr} {kvs : List (Key × V)} {ks : List Str} {E : Value → Shared → Prop} {Q : List Value → Shared → Prop} (I : Inv X pins σ H s) (hc : X.calm = true) (hd : Rd H a (.dK kvs)) (hk : kvs.map (·.1) = ks.map Sum.inr)
    (hQ : ∀ us s', Inv X pins σ H s' → Vals (ks.map V.str) us → Q us s') : PySem.W.StarOf (model X.prog X.w) X.A E (.ref a) Q s := by
  obtain ⟨z, lo, vs, rel, dd⟩ := dk_rd I.hok hd
  obtain ⟨o, es, ep, e, c⟩ := dd
  have hT : s.TypeIs (.ref a) "dict" := ⟨o, e, c.1.1⟩
  unfold PySem.W.StarOf notIterableAtAll
  exact wpAny_bind (wpAny_specialOf hT PySem.F.slot_dict_iter.lookup (wpAny_pure ⟨rfl, collect_dK I (I.ok.hd hc) hd hk hQ⟩))
def tStarD (te : TE) (t : TA) : TA := fun σ H Q => te σ H fun x H1 => ∃ p kvs, ∃ ks : List Str, x = V.ref p ∧ Rd H1 p (.dK kvs) ∧ kvs.map (·.1) = ks.map Sum.inr ∧ t σ H1 fun ys H2 => Q (ks.map V.str ++ ys) H2
theorem pa_starD {e : Expr} {es : List Expr} {te : TE} {t : TA} {p : Pos} (hc : X.calm = true) (he : PE X e te) (hr : PA X es t) (hs : starEach (.Starred e p :: es) X.env = (true, eval e X.env) :: starEach es X.env := by rfl) : PA X (.Starred e p :: es) (tStarD te t) := by
  refine ⟨fun pos pins s σ H Q I h => ?_⟩
  refine PySem.W.items_star (thn (he.run pins s σ H _ I h) fun v s1 ⟨y, H1, I1, ry, a, kvs, ks, ey, hx, hk, q⟩ => ?_) hs
  subst ey
  obtain rfl : v = Value.ref a := ry
  refine star_dK I1 hc hx hk fun us s2 I2 rv => ?_
  exact thn (hr.run pos pins s2 σ H1 _ I2 q) fun ws s3 ⟨vs, H3, I3, r3, q3⟩ => ⟨ks.map V.str ++ vs, H3, I3, rv.append r3, q3⟩
end
end BF
set_option Elab.async false
set_option linter.all false
set_option maxRecDepth 100000
set_option maxHeartbeats 4000000
/-! Own rules: the least and greatest of two texts. -/
namespace BF
open PySem PySem.Spec PyProof.Rows L2
section
variable {prog : Program} {w : World} {A : Around} {E : Value → Shared → Prop} {s : Shared}
theorem rcGt_str {x y : Str} {t u : Tok} {Q : Value → Shared → Prop} (h : Q (.bool (decide (y.cps.toList < x.cps.toList))) s) : wpAny (model prog w) A (richCompare .Gt (.str x t) (.str y u)) Q E s :=
  richCompare_gives (op := .Gt) (typeIs_str s _ t) (typeIs_str s _ u) PySem.F.slot_str_gt PySem.F.entry_str_gt (PySem.F.args_str_gt_2 _ _) (PySem.gives_str_gt _ _ t u) (fun x => nomatch x) h
def txAt (xs : Array (Str × Tok)) (i : Nat) : Str := (xs[i]?.map (·.1)).getD ⟨#[]⟩
def txItems (xs : Array (Str × Tok)) : Array Value := xs.map fun p => .str p.1 p.2
theorem txItems_at {xs : Array (Str × Tok)} {i : Nat} {v : Value} (h : (txItems xs)[i]? = some v) : ∃ t, v = .str (txAt xs i) t := by
  simp only [txItems, Array.getElem?_map, Option.map_eq_some_iff] at h
  obtain ⟨p, hp, rfl⟩ := h
  exact ⟨p.2, by simp [txAt, hp]⟩
theorem cmp_gt {P : Nat → Value → Prop} (val : Nat → Str) (hval : ∀ i v, P i v → ∃ t, v = .str (val i) t) : CmpOf prog w A .Gt P (fun i j => decide ((val j).cps.toList < (val i).cps.toList)) := fun i j vi vj s Q E hi hj h => by
  obtain ⟨t, rfl⟩ := hval i vi hi
  obtain ⟨u, rfl⟩ := hval j vj hj
  exact rcGt_str h
theorem cmp_lt {P : Nat → Value → Prop} (val : Nat → Str) (hval : ∀ i v, P i v → ∃ t, v = .str (val i) t) : CmpOf prog w A .Lt P (fun i j => decide ((val i).cps.toList < (val j).cps.toList)) := fun i j vi vj s Q E hi hj h => by
  obtain ⟨t, rfl⟩ := hval i vi hi
  obtain ⟨u, rfl⟩ := hval j vj hj
  exact DT.rcLt_str _ _ _ _ _ _ _ _ _ _ h
theorem max_two_txt {a b : Str} {t u : Tok} {Q : Value → Shared → Prop} (hh : A.handled = none)
    (h : ∀ h' tk, (∀ c o, s.heap.get? c = some o → h'.get? c = some o) → Q (if a.cps.toList < b.cps.toList then .str b u else .str a t) { s with heap := h', toks := tk }) :
    wpAny (model prog w) A (call (.builtin "max") [.str a t, .str b u]) Q E s := by
  have hT : (s.heap.push { cls := .type "tuple", data := .seq #[.str a t, .str b u] }).IsTuple s.heap.objs.size (txItems #[(a, t), (b, u)]) := ⟨_, Heap.get?_push_size _ rfl, rfl, 0, by simp [txItems]⟩
  refine call_max_two (wpAny_pyIter_tuple hT ?_)
  have hsz : (s.heap.push { cls := .type "tuple", data := .seq #[.str a t, .str b u] }).objs.size = s.heap.objs.size + 1 := Heap.size_push ..
  refine ⟨_, [_, s.heap.objs.size], [_], _, _, _, _, rfl, Walks.tuple (A := A.in1) hh _ s.heap.objs.size (by rw [hsz]; exact Nat.ne_of_lt (Nat.lt_succ_self _)) (txItems #[(a, t), (b, u)]),
    ⟨⟨_, Heap.get?_push_size _ rfl, rfl, rfl⟩, hT.push _⟩, fun c hc => ?_, by simp [txItems], cmp_gt (txAt #[(a, t), (b, u)]) (fun _ _ => txItems_at), fun v h' tk hP hk => ?_⟩
  · show c < ((s.heap.push _).push _).objs.size
    rw [Heap.size_push, hsz]
    rcases List.mem_cons.mp hc with rfl | hc
    · rw [hsz]; exact Nat.lt_succ_self _
    · rcases List.mem_cons.mp hc with rfl | hc
      · exact Nat.lt_succ_of_lt (Nat.lt_succ_self _)
      · cases hc
  · have hold : ∀ c o, s.heap.get? c = some o → h'.get? c = some o := fun c o e => by
      refine hk c o (fun hm => ?_) (Heap.get?_push_of_some _ (Heap.get?_push_of_some _ e))
      rcases List.mem_cons.mp hm with e1 | hm
      · have := Heap.lt_size e; rw [e1, hsz] at this; exact Nat.lt_irrefl _ (Nat.lt_of_succ_lt this)
      · cases hm
    have := h h' tk hold
    have hv : v = if a.cps.toList < b.cps.toList then Value.str b u else Value.str a t := by
      have hP' : (txItems #[(a, t), (b, u)])[argBest (fun i j => decide ((txAt #[(a, t), (b, u)] j).cps.toList < (txAt #[(a, t), (b, u)] i).cps.toList)) 1]? = some v := by
        have hsz2 : (txItems #[(a, t), (b, u)]).size - 1 = 1 := by simp [txItems]
        rw [← hsz2]; exact hP
      by_cases hba : a.cps.toList < b.cps.toList
      · have e : argBest (fun i j => decide ((txAt #[(a, t), (b, u)] j).cps.toList < (txAt #[(a, t), (b, u)] i).cps.toList)) 1 = 1 := by simp [argBest, txAt, hba]
        rw [e] at hP'
        simpa [txItems, hba] using hP'.symm
      · have e : argBest (fun i j => decide ((txAt #[(a, t), (b, u)] j).cps.toList < (txAt #[(a, t), (b, u)] i).cps.toList)) 1 = 0 := by simp [argBest, txAt, hba]
        rw [e] at hP'
        simpa [txItems, hba] using hP'.symm
    rw [hv]; exact this
theorem min_two_txt {a b : Str} {t u : Tok} {Q : Value → Shared → Prop} (hh : A.handled = none)
    (h : ∀ h' tk, (∀ c o, s.heap.get? c = some o → h'.get? c = some o) → Q (if b.cps.toList < a.cps.toList then .str b u else .str a t) { s with heap := h', toks := tk }) :
    wpAny (model prog w) A (call (.builtin "min") [.str a t, .str b u]) Q E s := by
  have hT : (s.heap.push { cls := .type "tuple", data := .seq #[.str a t, .str b u] }).IsTuple s.heap.objs.size (txItems #[(a, t), (b, u)]) := ⟨_, Heap.get?_push_size _ rfl, rfl, 0, by simp [txItems]⟩
  refine call_min_two (wpAny_pyIter_tuple hT ?_)
  have hsz : (s.heap.push { cls := .type "tuple", data := .seq #[.str a t, .str b u] }).objs.size = s.heap.objs.size + 1 := Heap.size_push ..
  refine ⟨_, [_, s.heap.objs.size], [_], _, _, _, _, rfl, Walks.tuple (A := A.in1) hh _ s.heap.objs.size (by rw [hsz]; exact Nat.ne_of_lt (Nat.lt_succ_self _)) (txItems #[(a, t), (b, u)]),
    ⟨⟨_, Heap.get?_push_size _ rfl, rfl, rfl⟩, hT.push _⟩, fun c hc => ?_, by simp [txItems], cmp_lt (txAt #[(a, t), (b, u)]) (fun _ _ => txItems_at), fun v h' tk hP hk => ?_⟩
  · show c < ((s.heap.push _).push _).objs.size
    rw [Heap.size_push, hsz]
    rcases List.mem_cons.mp hc with rfl | hc
    · rw [hsz]; exact Nat.lt_succ_self _
    · rcases List.mem_cons.mp hc with rfl | hc
      · exact Nat.lt_succ_of_lt (Nat.lt_succ_self _)
      · cases hc
  · have hold : ∀ c o, s.heap.get? c = some o → h'.get? c = some o := fun c o e => by
      refine hk c o (fun hm => ?_) (Heap.get?_push_of_some _ (Heap.get?_push_of_some _ e))
      rcases List.mem_cons.mp hm with e1 | hm
      · have := Heap.lt_size e; rw [e1, hsz] at this; exact Nat.lt_irrefl _ (Nat.lt_of_succ_lt this)
      · cases hm
    have := h h' tk hold
    have hv : v = if b.cps.toList < a.cps.toList then Value.str b u else Value.str a t := by
      have hP' : (txItems #[(a, t), (b, u)])[argBest (fun i j => decide ((txAt #[(a, t), (b, u)] i).cps.toList < (txAt #[(a, t), (b, u)] j).cps.toList)) 1]? = some v := by
        have hsz2 : (txItems #[(a, t), (b, u)]).size - 1 = 1 := by simp [txItems]
        rw [← hsz2]; exact hP
      by_cases hba : b.cps.toList < a.cps.toList
      · have e : argBest (fun i j => decide ((txAt #[(a, t), (b, u)] i).cps.toList < (txAt #[(a, t), (b, u)] j).cps.toList)) 1 = 1 := by simp [argBest, txAt, hba]
        rw [e] at hP'
        simpa [txItems, hba] using hP'.symm
      · have e : argBest (fun i j => decide ((txAt #[(a, t), (b, u)] i).cps.toList < (txAt #[(a, t), (b, u)] j).cps.toList)) 1 = 0 := by simp [argBest, txAt, hba]
        rw [e] at hP'
        simpa [txItems, hba] using hP'.symm
    rw [hv]; exact this
end
section
variable {X : Cx}
theorem call_max2T (hc : X.calm = true) : CallR X (.builtin "max") (fun xs H Q => ∃ i j, xs = [.str i, .str j] ∧ Q (.str (if i.cps.toList < j.cps.toList then j else i)) H) := by
  intro pins s σ H xs us Q I r h
  obtain ⟨i, j, rfl, q⟩ := h
  obtain ⟨u, w', rfl, ⟨t, rfl⟩, ⟨t', rfl⟩⟩ := vals2 r
  refine max_two_txt (I.ok.hd hc) fun h' tk k => ⟨_, H, I.kept k, ?_, q⟩
  by_cases hj : i.cps.toList < j.cps.toList
  · rw [if_pos hj, if_pos hj]; exact ⟨_, rfl⟩
  · rw [if_neg hj, if_neg hj]; exact ⟨_, rfl⟩
theorem call_min2T (hc : X.calm = true) : CallR X (.builtin "min") (fun xs H Q => ∃ i j, xs = [.str i, .str j] ∧ Q (.str (if j.cps.toList < i.cps.toList then j else i)) H) := by
  intro pins s σ H xs us Q I r h
  obtain ⟨i, j, rfl, q⟩ := h
  obtain ⟨u, w', rfl, ⟨t, rfl⟩, ⟨t', rfl⟩⟩ := vals2 r
  refine min_two_txt (I.ok.hd hc) fun h' tk k => ⟨_, H, I.kept k, ?_, q⟩
  by_cases hj : j.cps.toList < i.cps.toList
  · rw [if_pos hj, if_pos hj]; exact ⟨_, rfl⟩
  · rw [if_neg hj, if_neg hj]; exact ⟨_, rfl⟩
end
end BF
set_option Elab.async false
set_option linter.all false
set_option maxRecDepth 100000
set_option maxHeartbeats 4000000
/-! Own rules: xs.remove(t) of nested data. -/
namespace BF
open PySem PySem.Spec PyProof.Rows L2
section
open PySem.SeqAt PySem.MeetsSeq
open PySem.AutoSeq1 (wpAny_loadPart')
theorem remove_loopAt (l : Addr) (items : Array Value) (n : Nat) (x : Value) (e : Value → Bool) (j : Nat) (hj : j < items.size) (hit : e items[j] = true) (k : Nat) (hs1 : items.size ≤ sizeLine) :
    ∀ i : Nat, j - i = k → i ≤ j → (∀ m (hm : m < items.size), i ≤ m → m < j → e items[m] = false) → Meets (Builtin.«list.remove.loop» ⟨[.ref l, x, rawInt i], []⟩)
      (fun A R s => s.heap.get? l = some { cls := .type "list", dict := none, data := .seq items n, slots := #[] } ∧ (∀ y, y ∈ items → EqAt A.in1 s y x (e y)) ∧ R (.ok (.ret .none)) { s with heap := s.heap.update l (Obj.mapSeq fun xs => xs.eraseIdxIfInBounds j) }) := by
  induction k with
  | zero =>
    intro i hk hij hno prog w A R s h
    obtain ⟨hp, g, d, tk, os⟩ := s; obtain ⟨hl, he, h⟩ := h
    have hij' : i = j := by omega
    subst hij'
    wp_walk using wpAny_loadPart' hl
    have hi : items[((i : Nat) : Int).toNat]? = some items[i] := by simp [hj]
    rw [hi]
    refine wpAny_bind (he _ (Array.getElem_mem hj) prog w _ _ ?_)
    rw [hit]
    have hz' : (items.eraseIdxIfInBounds i).size ≤ sizeLine + 1 := Nat.le_trans (size_erased items _) (Nat.le_succ_of_le hs1)
    wp_walk using (wpAny_updateSeq hl rfl (hz := hs1) (_hz' := hz')), wpAny_loadPart' hl
    simpa using h
  | succ k ih =>
    intro i hk hij hno prog w A R s h
    obtain ⟨hp, g, d, tk, os⟩ := s; obtain ⟨hl, he, h⟩ := h
    have hlt : i < items.size := by omega
    wp_walk using wpAny_loadPart' hl
    have hi : items[((i : Nat) : Int).toNat]? = some items[i] := by simp [hlt]
    have hc : ((i : Int) + 1) = ((i + 1 : Nat) : Int) := by push_cast; rfl
    rw [hi]
    refine wpAny_bind (he _ (Array.getElem_mem hlt) prog w _ _ ?_)
    rw [hno i hlt (Nat.le_refl _) (by omega)]
    wp_walk
    rw [hc]
    exact ⟨plainId_quiet plain_remove_loop _, codeAny_builtin entry_remove_loop (by
      rw [Around.under_plainId plain_remove_loop _]
      exact ih (i + 1) (by omega) (by omega) (fun m hm h1 h2 => hno m hm (by omega) h2) prog w A R _ ⟨hl, he, h⟩)⟩
theorem list_removeAt (l : Addr) (items : Array Value) (n : Nat) (x : Value) (e : Value → Bool) (j : Nat) (hj : j < items.size)
    (hit : e items[j] = true) (hno : ∀ m (hm : m < items.size), m < j → e items[m] = false) (hs1 : items.size ≤ sizeLine) :
    Meets (Builtin.«list.remove» ⟨[.ref l, x], []⟩)
      (fun A R s => s.heap.get? l = some { cls := .type "list", dict := none, data := .seq items n, slots := #[] } ∧ (∀ y, y ∈ items → EqAt A.in1 s y x (e y)) ∧ R (.ok (.ret .none)) { s with heap := s.heap.update l (Obj.mapSeq fun xs => xs.eraseIdxIfInBounds j) }) := by
  intro prog w A R s h
  obtain ⟨hp, g, d, tk, os⟩ := s; obtain ⟨hl, he, h⟩ := h
  wp_walk using wpAny_loadPart' hl
  exact ⟨plainId_quiet plain_remove_loop _, codeAny_builtin entry_remove_loop (by
    rw [Around.under_plainId plain_remove_loop _]
    exact remove_loopAt l items n x e j hj hit _ hs1 0 rfl (Nat.zero_le _) (fun m hm _ h2 => hno m hm h2) prog w A R _ ⟨hl, he, h⟩)⟩
end
section
variable {X : Cx}
def rRemD (K : PySem.W.Frag) : V → List V → Hp → VK → Prop := fun x xs H Q => ∃ (a : Addr) (ys : List V) (y : V) (d : PyData) (ds : List PyData) (j : Nat) (z : PyData), x = V.ref a ∧ xs = [y] ∧ H a = some (.lst ys) ∧ DpAll K H ys ds ∧ Dp K H y d ∧
  SeqAt.shaped (.list ds) = true ∧ SeqAt.shaped d = true ∧ ds[j]? = some z ∧ PyData.eqv z d = true ∧ (∀ (m : Nat) (z' : PyData), m < j → ds[m]? = some z' → PyData.eqv z' d = false) ∧ Q .non (upd H a (.lst (ys.eraseIdx j)))
theorem erase_vals {xs : List V} {us : List Value} (r : Vals xs us) : ∀ j : Nat, Vals (xs.eraseIdx j) (us.eraseIdx j) := by
  induction r with
  | nil => intro j; exact .nil
  | cons h t ih =>
    intro j
    cases j with
    | zero => exact t
    | succ j => exact .cons h (ih j)
theorem mt_removeD (hu : X.A.units + 65 < cLine) : MtR X "list.remove" (rRemD X.K) := by
  intro pins s σ H x xs v us Q I rx rxs h
  obtain ⟨a, ys, y, d, ds, j, z, rfl, rfl, hH, ha, hy, sl, sd, hz, hzj, hno, q⟩ := h
  cases rx
  cases rxs with
  | cons ry rt =>
    rename_i uy ut
    cases rt
    obtain ⟨bs, r1⟩ := Dp.reads I d y uy hy ry
    have hxs : PyData.canLayAll0 ds = true := SeqAt.canLay_of_shaped sl
    have hroom : X.A.units + 1 + min (PyData.depthAll ds) d.depth < cLine := room_in_shaped sd hu
    obtain ⟨hlen, its, n, rv, hl, ho⟩ := I.lstM hH
    obtain ⟨as, h4⟩ := Dp.readsAll I ds _ its ha rv
    have hn : its.length = ds.length := SeqAt.ReadsAll.length ds its as h4
    have hmap : its.map (SeqAt.readOf s.heap) = ds := SeqAt.readsAll_map ds its as hxs h4
    have hsl := sizeLine_eq
    obtain ⟨hjd, _⟩ := List.getElem?_eq_some_iff.mp hz
    have hjl : j < its.length := by omega
    have hj : j < its.toArray.size := by simpa using hjl
    have at_ : ∀ (m : Nat) (hm : m < its.toArray.size) (z' : PyData), ds[m]? = some z' → SeqAt.readOf s.heap its.toArray[m] = z' := by
      intro m hm z' hz'
      have hml : m < its.length := by simpa using hm
      rw [← hmap, List.getElem?_map, List.getElem?_eq_getElem hml] at hz'
      have e1 : SeqAt.readOf s.heap its[m] = z' := Option.some.inj (show some (SeqAt.readOf s.heap its[m]) = some z' from hz')
      simpa using e1
    refine call_meets PySem.F.slot_list_remove ⟨_, ho, rfl⟩ PySem.F.entry_list_remove (PySem.F.args_list_remove_2 _ _)
      (list_removeAt a its.toArray n uy (fun u => PyData.eqv (SeqAt.readOf s.heap u) d) j hj ?_ ?_ (by rw [List.size_toArray]; omega)) ⟨ho, SeqAt.items_eqAt (vs := its.toArray) (show ReadsAll s.heap its.toArray.toList ds as from h4) r1 hxs (SeqAt.canLay_of_shaped sd) hroom, ?_⟩
    · show PyData.eqv (SeqAt.readOf s.heap its.toArray[j]) d = true
      rw [at_ j hj z hz]
      exact hzj
    · intro m hm hmj
      have hmd : m < ds.length := by omega
      have hz' : ds[m]? = some ds[m] := List.getElem?_eq_getElem hmd
      show PyData.eqv (SeqAt.readOf s.heap its.toArray[m]) d = false
      rw [at_ m hm _ hz']
      exact hno m _ hmj hz'
    · refine ⟨.non, _, I.lset (its' := its.eraseIdx j) (t' := s.toks) hH ho ?_ (erase_vals rv j) ?_, rfl, q⟩
      · show its.toArray.eraseIdxIfInBounds j = (its.eraseIdx j).toArray
        rw [List.eraseIdxIfInBounds_toArray]
      · have := len_erase ys j
        omega
end
end BF
set_option Elab.async false
set_option linter.all false
set_option maxRecDepth 100000
set_option maxHeartbeats 4000000
/-! Own rules: {t: v} with a tuple as its key. -/
namespace BF
open PySem PySem.Spec PyProof.Rows L2
section
variable {X : Cx}
def tDisp1T (tk tv : TE) : TE := fun σ H Q => ∀ p, H p = none → tk σ (upd H p (.dT [])) fun x H1 => tv σ H1 fun y H2 => ∃ b k, x = .ref b ∧ H2 b = some (.tup (k.map kV)) ∧ H2 p = some (.dT []) ∧ Q (.ref p) (upd H2 p (.dT [(k, y)]))
theorem pe_disp1T {k v : Expr} {tk tv : TE} {pos : Pos} (hu : X.A.units + 1 < cLine) (hk : PE X k tk) (hv : PE X v tv) : PE X (.Dict [some k] [v] pos) (tDisp1T tk tv) := by
  refine ⟨fun pins s σ H Q I q => ?_⟩
  have hn := I.hok.fresh (Nat.le_refl s.heap.objs.size)
  have I1 := I.laid (a := s.heap.objs.size) (o := .dT []) (h' := s.heap.push { cls := .type "dict", data := .dict #[] }) (t' := s.toks) (fun _ _ q => Heap.get?_push_of_some _ q) (Nat.le_refl _) (dt_empty s.heap I.big)
  have hall : ([some k] : List (Option Expr)).all (·.isSome) = true := rfl
  rw [arm_eval_Dict, zip_pairTrees [some k] [v] X.env pos rfl rfl, dictDisplay_pairs _ (fun e => by have := congrArg List.length e; rw [pairTrees_length _ _ _ _ rfl rfl] at this; simp at this) (by rw [pairTrees_length _ _ _ _ rfl rfl]; simp)]
  refine wpAny_bind (wpAny_standAt (wpAny_bind (wpAny_subDictH (knd := tupleKind (mixKind X.prog X.w)) (Q := fun d s' => wpAny (model X.prog X.w) X.A (pure (Value.ref d)) (EP X pins σ Q) X.xe s') ?_ (by rw [pairTrees_length _ _ _ _ rfl rfl]; simp) ?_)))
  · show X.A.units < cLine; omega
  · refine pairTrees_cons_walk (thn (hk.run pins _ σ _ _ I1 (q _ hn)) fun u s1 ⟨x, H1, I2, rx, q1⟩ => thn (hv.run pins s1 σ H1 _ I2 q1) fun w2 s2 ⟨y, H2, I3, ry, b, ks, ex, hb, hd, q2⟩ => pairTrees_nil_walk ?_)
    subst ex
    cases (show u = Value.ref b from rx)
    obtain ⟨z, hd0, xs, rel, dd⟩ := dt_of I3.hok hd
    cases rel
    refine ⟨[(ks, b, w2)], ⟨rfl, rfl, key_of I3.hok hb, trivial⟩, dd, fun h' tk dd' hs => wpAny_pure ⟨.ref s.heap.objs.size, _, ?_, rfl, q2⟩⟩
    obtain ⟨ob, es, ep, hq, h2, h3, h4, _, h5⟩ := dd'
    refine d_write I3 (by rw [hd]; exact True.intro) hs ⟨ob, hq⟩ ⟨by rw [sizeLine_eq]; simp, hd0, [(ks, b, w2)], .cons ⟨rfl, ?_, ry⟩ .nil, ob, es, ep, hq, h2, h3, h4, h5⟩
    rw [upd_ne (ne_of hb hd (fun z => nomatch z))]
    exact hb
end
end BF
set_option Elab.async false
set_option linter.all false
set_option maxRecDepth 100000
set_option maxHeartbeats 4000000
/-! Own rules: a dict comprehension over any kind of dict (turned from the layer's own, the store a parameter); keys that are tuples. -/
namespace BF
open PySem PySem.Spec PyProof.Rows L2
section
variable {X : Cx}
/-- as the layer's reading of a dict comprehension, with the new dict o0 and the store pr left open -/
def tDcG (o0 : HO) (pr : Addr → V → V → Hp → (Hp → Prop) → Prop) (wi : TI) (g : TG) (tt : TT) (tk tv : TE) (vs : List Nat) : TE := fun σ H Q => wi σ H fun J H1 => ∀ D, H1 D = none → ∃ W : Nat → Nat → Hp → Prop, (∃ m, W 0 m (upd H1 D o0)) ∧ ∀ i m H, W i m H →
  (J.stop i H ∧ Q (.ref D) H) ∨ (J.go i H ∧ ∃ Nx : Hp → Prop, (∀ H', Nx H' → ∃ m', m' < m ∧ W (i + 1) m' H') ∧ ∀ x H', J.yld i H x H' → g x (wipe σ vs) H' fun σ2 H2 => wipe σ2 vs = wipe σ vs ∧ tt σ2 H2 fun b H3 =>
    if b = true then tk σ2 H3 fun y H4 => tv σ2 H4 fun z H5 => pr D y z H5 Nx else Nx H3)
theorem dcG_core {pins : List (Addr × Obj)} {s : Shared} {σ : L2.St} {H : Hp} {Q : VK} {kx vx tg iter : Expr} {ifs : List Expr} {scope : Scope} {own : List (Str × Nat)} {pos pos' : Pos} {wi : TI} {g : TG} {tt : TT} {tk tv : TE} {use : Option (Value → Sem Unit)} {Qf : Value → Shared → Prop}
    (hc : X.calm = true) (hN : X.N.Nodup) (I : Inv X pins σ H s) (hi : PI X tg iter wi) (ok : BlkOk X.N X.env.scope scope own)
    (hg : ∀ (s : Shared) (H : Hp) (C : Addr) (cl : List (Str × Addr)) (fp : List Addr), PG (X.blk s H scope (compEnvC scope cl C X.env) fp) tg g) (ht : ∀ (s : Shared) (H : Hp) (C : Addr) (cl : List (Str × Addr)) (fp : List Addr), PTs (X.blk s H scope (compEnvC scope cl C X.env) fp) ifs tt)
    (hk : ∀ (s : Shared) (H : Hp) (C : Addr) (cl : List (Str × Addr)) (fp : List Addr), PE (X.blk s H scope (compEnvC scope cl C X.env) fp) kx tk)
    (he : ∀ (s : Shared) (H : Hp) (C : Addr) (cl : List (Str × Addr)) (fp : List Addr), PE (X.blk s H scope (compEnvC scope cl C X.env) fp) vx tv) (hs : ∀ x, foldedSetIterable iter X.env x = pure x)
    (o0 : HO) (hnew : ∀ (H : Hp) (h : Heap), sysModules < h.objs.size → ObjOk X.prog X.w H (h.push { cls := .type "dict", data := .dict #[] }) h.objs.size o0) (pr : Addr → V → V → Hp → (Hp → Prop) → Prop)
    (hput : ∀ {X' : Cx} {pins : List (Addr × Obj)} {σ : L2.St} {H : Hp} {s : Shared} {E : Value → Shared → Prop} {D : Addr} {y v : V} {u r : Value} {G : Hp → Prop} {Q : Unit → Shared → Prop}, X'.prog = X.prog → X'.w = X.w → X'.A = X.A → Inv X' pins σ H s → L2.RelV y u → L2.RelV v r → pr D y v H G → (∀ H' s', Inv X' pins σ H' s' → G H' → Q () s') → wpAny (model X'.prog X'.w) X'.A (dictSet D u r) Q E s)
    (h : tDcG o0 pr wi g tt tk tv (own.map (·.2)) σ H Q)
    (hRR : ∀ D C s' m H', Inv X pins σ H' s' → Q (.ref D) H' → s'.heap.Ns C m → FpOk X pins H' C → compPost (model X.prog X.w) X.A X.xe use Qf (.ref D) C (.ok .next) s') :
    wpAny (model X.prog X.w) X.A (comprehension (.DictComp kx vx [⟨tg, iter, ifs, 0⟩] scope pos) scope X.env pos' newDict false (eval iter X.env) use) Qf X.xe s := by
  have hfree : ∀ y ∈ scope.names, y.2 = .free → ∃ c, X.env.cells.lookup y.1 = some c := fun y hy e => by
    rcases ok.free y hy e with k | k
    · exact I.ok.has _ (.inl k)
    · exact I.ok.has _ (.inr k)
  refine wpAny_comprehension_free (use := use) rfl hs (closure_ok hfree) ok.kind (fun y hy e => by rw [ok.uniq y hy, e])
    (thn (hi.run pins s σ H _ I h) fun xv s1 hx => thn hx fun itv s2 h2 => ?_)
  obtain ⟨it, fp, tn, J, H2, e, I2, T, st2, f2, q⟩ := h2
  subst e
  refine wpAny_newObj_type (newEnv_comp ?_)
  generalize hD : s2.heap.objs.size = D
  have hDn : H2 D = none := I2.hok.fresh (Nat.le_of_eq hD)
  obtain ⟨W, ⟨m0, w0⟩, turn⟩ := q D hDn
  -- the new list
  generalize hs3 : ({ s2 with heap := s2.heap.push { cls := .type "dict", data := .dict #[] } } : Shared) = s3
  have I3 : Inv X pins σ (upd H2 D o0) s3 := by
    rw [← hs3]
    refine I2.laid (t' := s2.toks) (fun b o e => Heap.get?_push_of_some _ e) (Nat.le_of_eq hD) ?_
    rw [← hD]
    exact hnew _ s2.heap I2.big
  have h3 : s3.heap = s2.heap.push { cls := .type "dict", data := .dict #[] } := by rw [← hs3]
  have sz : ∀ b ∈ fp, b < s2.heap.objs.size := fun b hb => by
    obtain ⟨o, e, _⟩ := T.obj _ _ st2 b hb
    exact Heap.lt_size e
  have f3 : ∀ b ∈ fp, FpOk X pins (upd H2 D o0) b ∧ b < s3.heap.objs.size := fun b hb => by
    have hlt := sz b hb
    refine ⟨⟨?_, (f2 b hb).2⟩, by rw [h3, Heap.size_push]; exact Nat.lt_succ_of_lt hlt⟩
    rw [upd_ne (by rw [← hD]; exact Nat.ne_of_lt hlt)]
    exact (f2 b hb).1
  have st3 : tn 0 s3.heap := T.keep _ _ _ st2 fun b _ o e => by rw [h3]; exact Heap.get?_push_of_some _ e
  have I4 := block_start I3 ok hN f3
  have pg := hg s3 (upd H2 D o0) s3.heap.objs.size (cellsFrom (s3.heap.objs.size + 1) scope.names (cloFrom X.env.cells scope.names [])) fp
  have pt := ht s3 (upd H2 D o0) s3.heap.objs.size (cellsFrom (s3.heap.objs.size + 1) scope.names (cloFrom X.env.cells scope.names [])) fp
  have pk := hk s3 (upd H2 D o0) s3.heap.objs.size (cellsFrom (s3.heap.objs.size + 1) scope.names (cloFrom X.env.cells scope.names [])) fp
  have pe := he s3 (upd H2 D o0) s3.heap.objs.size (cellsFrom (s3.heap.objs.size + 1) scope.names (cloFrom X.env.cells scope.names [])) fp
  show codeAny _ _ (.compStart (.DictComp kx vx [⟨tg, iter, ifs, 0⟩] scope pos) 0 (.ref it) (.ref D) (compEnvC scope (cellsFrom (s3.heap.objs.size + 1) scope.names (cloFrom X.env.cells scope.names [])) s3.heap.objs.size X.env)) (compPost (model X.prog X.w) X.A X.xe use Qf (.ref D) s3.heap.objs.size) { s3 with heap := pushCells (s3.heap.push { cls := .type "dict", data := .dict #[] }) scope.names }
  have nfp : ∀ b ∈ fp, (upd H2 D o0) b = none := fun b hb => (f3 b hb).1.1
  generalize hce : compEnvC scope (cellsFrom (s3.heap.objs.size + 1) scope.names (cloFrom X.env.cells scope.names [])) s3.heap.objs.size X.env = ce at I4 pg pt pk pe ⊢
  have cL : ce.locals = s3.heap.objs.size := by subst hce; rfl
  generalize hH3 : upd H2 D o0 = H3 at I3 I4 pg pt pk pe w0 nfp f3
  generalize hs4 : ({ s3 with heap := pushCells (s3.heap.push { cls := .type "dict", data := .dict #[] }) scope.names } : Shared) = s4 at I4 ⊢
  have st4 : tn 0 s4.heap := T.keep _ _ _ st3 fun b _ o e => by rw [← hs4]; exact pushCells_keeps _ _ _ _ (Heap.get?_push_of_some _ e)
  have stat : ∀ {σ' : L2.St} {H' : Hp} {s' : Shared}, Inv (X.blk s3 H3 scope ce fp) [] σ' H' s' → (∀ b ∈ fp, H' b = none) → ∀ b ∈ fp, FpOk (X.blk s3 H3 scope ce fp) [] H' b := fun {σ' H' s'} I' hn b hb =>
    ⟨hn b hb, (I'.ok.exf b hb).1, I'.ok.exfs b hb, .inl hb, fun x c e => (I'.ok.exf b hb).2 x c e, fun p hp => absurd (show p ∈ ([] : List (Addr × Obj)) ++ [] from hp) (by simp)⟩
  have loop : codeAny (model X.prog X.w) X.A (.compLoop (.DictComp kx vx [⟨tg, iter, ifs, 0⟩] scope pos) 0 (.ref it) (.ref D) ce) (compPost (model X.prog X.w) X.A X.xe use Qf (.ref D) s3.heap.objs.size) s4 := by
    refine compLoop_anyD (fun n s' => ∃ i H', Inv (X.blk s3 H3 scope ce fp) [] (wipe σ (own.map (·.2))) H' s' ∧ tn i s'.heap ∧ (∀ b ∈ fp, H' b = none) ∧ W i n H') ?_ m0 ⟨0, H3, I4, st4, nfp, w0⟩
    rintro n s5 ⟨i, H5, I5, st5, n5, w5⟩
    rcases turn i n H5 w5 with ⟨stop, qq⟩ | ⟨go, Nx, hNx, step⟩
    · have td := T.done (X.blk s3 H3 scope ce fp) rfl rfl rfl hc i [] s5 _ H5 (fun _ _ => False) I5 (stat I5 n5) st5 stop
      refine thnF td fun r s6 ⟨hr, I6⟩ => ?_
      subst hr
      -- back in the def's context
      have I7 : Inv X pins σ H5 s6 := I3.call' (ch := fp) I6.os I6.base I6.hok I6.bare fun b hb => ⟨(f3 b hb).1.2.2.2.1, (f3 b hb).1.2.1, (f3 b hb).1.2.2.2.2.1, (f3 b hb).1.2.2.2.2.2⟩
      have nC : H5 s3.heap.objs.size = none := by
        have z : H5 ce.locals = none := I6.free
        rw [cL] at z
        exact z
      obtain ⟨m, hn, _⟩ := I6.loc
      have hn : s6.heap.Ns ce.locals m := hn
      rw [cL] at hn
      exact hRR D s3.heap.objs.size s6 m H5 I7 qq hn (I3.fpOk (Nat.le_refl _) nC)
    · have ti := T.item (X.blk s3 H3 scope ce fp) rfl rfl rfl hc i [] s5 _ H5 (fun _ _ => False) I5 (stat I5 n5) st5 go
      refine thnF ti fun r s6 ⟨u, hr, h6⟩ => ?_
      subst hr
      refine thnF h6 fun _ s7 ⟨x, H7, I7, r7, y7, st7, n7⟩ => ?_
      have I7' := I7.pinned (stat I7 n7) (T.obj _ _ st7)
      refine thnF (pg.run _ s7 _ H7 x u _ I7' r7 (step x H7 y7)) fun _ s8 ⟨σ8, H8, I8, hw8, q8⟩ => ?_
      refine thnF (pt.run _ s8 σ8 H8 _ I8 q8) fun b s9 ⟨H9, I9, q9⟩ => ?_
      -- the turn's end
      have fin : ∀ {s' : Shared} {H' : Hp}, Inv (X.blk s3 H3 scope ce fp) ([] ++ pinsAt fp s7.heap) σ8 H' s' → Nx H' → ∃ m, m < n ∧ ∃ i H', Inv (X.blk s3 H3 scope ce fp) [] (wipe σ (own.map (·.2))) H' s' ∧ tn i s'.heap ∧ (∀ b ∈ fp, H' b = none) ∧ W i m H' := fun {s' H'} I' nx => by
        obtain ⟨m', hm, w'⟩ := hNx H' nx
        have pin' : ∀ b ∈ fp, ∀ o, s7.heap.get? b = some o → s'.heap.get? b = some o ∧ H' b = none := fun b hb o e =>
          let z := I'.pin (b, o) (List.mem_append_right _ (List.mem_append_right _ (mem_pinsAt hb e)))
          ⟨z.1, z.2.1⟩
        have hl : (wipe σ (own.map (·.2))).length = σ8.length := by rw [← hw8, wipe_length]
        refine ⟨m', hm, i + 1, H', (I'.unpinned (pins := [])).weak hl (fun j v e => ?_), T.keep _ _ _ st7 fun b hb o e => (pin' b hb o e).1, fun b hb => ?_, w'⟩
        · rw [← hw8] at e
          exact (wipe_some e).1
        · obtain ⟨o, e, _⟩ := T.obj _ _ st7 b hb
          exact (pin' b hb o e).2
      cases b with
      | false =>
        simp only [Bool.false_eq_true, if_false] at q9 ⊢
        exact fin I9 q9
      | true =>
        simp only [if_true] at q9 ⊢
        refine thnF (pk.run _ s9 σ8 H9 _ I9 q9) fun z s10 ⟨yk, H10, I10, r10, q10⟩ => ?_
        refine thnF (pe.run _ s10 σ8 H10 _ I10 q10) fun z2 s11 ⟨yv, H11, I11, r11, nx⟩ => ?_
        exact hput (X' := X.blk s3 H3 scope ce fp) rfl rfl rfl I11 r10 r11 nx fun H12 s12 I12 nx2 => fin I12 nx2
  exact codeAny_compStart_dict loop (T.self X.A 0 _ _ _ st4 loop)
/-- the store of a tuple key -/
def prT : Addr → V → V → Hp → (Hp → Prop) → Prop := fun D y v H G => ∃ kvs b k, y = .ref b ∧ H b = some (.tup (k.map kV)) ∧ H D = some (.dT kvs) ∧ kvs.length < sizeLine ∧ G (upd H D (.dT (putK kvs k v)))
theorem put_T (hu : X.A.units + 1 < cLine) {X' : Cx} {pins : List (Addr × Obj)} {σ : L2.St} {H : Hp} {s : Shared} {E : Value → Shared → Prop} {D : Addr} {y v : V} {u r : Value} {G : Hp → Prop} {Q : Unit → Shared → Prop} (h1 : X'.prog = X.prog) (h2 : X'.w = X.w) (h3 : X'.A = X.A)
    (I : Inv X' pins σ H s) (ry : L2.RelV y u) (rv : L2.RelV v r) (g : prT D y v H G) (h : ∀ H' s', Inv X' pins σ H' s' → G H' → Q () s') : wpAny (model X'.prog X'.w) X'.A (dictSet D u r) Q E s := by
  obtain ⟨kvs, b, k, rfl, eb, e, l, q⟩ := g
  cases (show u = Value.ref b from ry)
  obtain ⟨z, hd, xs, rel, dd⟩ := dt_of I.hok e
  have hz : xs.length ≤ sizeLine := by rw [← Paired.length rel]; exact z
  have hl : (putK kvs k v).length ≤ sizeLine := by have := length_putK kvs k v; omega
  refine wpAny_dictSet_heap (knd := tupleKind (mixKind X'.prog X'.w)) (hsz := hz) (by show X'.A.units < cLine; rw [h3]; omega) (key_of I.hok eb) dd fun h' dd' hs => h _ _ ?_ q
  obtain ⟨q, es, ep, hq, h2, h3, h4, _, h5⟩ := dd'
  refine d_write I (by rw [e]; exact True.intro) hs ⟨q, hq⟩ ⟨hl, hd, _, (rel.put k eb rv).keeps fun c ys ec => ?_, q, es, ep, hq, h2, h3, h4, h5⟩
  rw [upd_ne (ne_of ec e (fun z => nomatch z))]
  exact ec
theorem pe_dcT {kx vx tg iter : Expr} {ifs : List Expr} {scope : Scope} {own : List (Str × Nat)} {pos : Pos} {wi : TI} {g : TG} {tt : TT} {tk tv : TE} (hu : X.A.units + 1 < cLine) (hc : X.calm = true) (hN : X.N.Nodup) (hi : PI X tg iter wi) (ok : BlkOk X.N X.env.scope scope own)
    (hg : ∀ (s : Shared) (H : Hp) (C : Addr) (cl : List (Str × Addr)) (fp : List Addr), PG (X.blk s H scope (compEnvC scope cl C X.env) fp) tg g) (ht : ∀ (s : Shared) (H : Hp) (C : Addr) (cl : List (Str × Addr)) (fp : List Addr), PTs (X.blk s H scope (compEnvC scope cl C X.env) fp) ifs tt)
    (hk : ∀ (s : Shared) (H : Hp) (C : Addr) (cl : List (Str × Addr)) (fp : List Addr), PE (X.blk s H scope (compEnvC scope cl C X.env) fp) kx tk)
    (he : ∀ (s : Shared) (H : Hp) (C : Addr) (cl : List (Str × Addr)) (fp : List Addr), PE (X.blk s H scope (compEnvC scope cl C X.env) fp) vx tv) (hs : ∀ x, foldedSetIterable iter X.env x = pure x := by intro _; rfl) :
    PE X (.DictComp kx vx [⟨tg, iter, ifs, 0⟩] scope pos) (tDcG (.dT []) prT wi g tt tk tv (own.map (·.2))) := by
  refine ⟨fun pins s σ H Q I h => ?_⟩
  rw [arm_eval_DictComp]
  refine dcG_core hc hN I hi ok hg ht hk he hs (.dT []) (fun H h hb => dt_empty h hb) prT (put_T hu) h fun D C s' m H' I' q hn f => ⟨m, hn, fun h'' sb => ?_⟩
  obtain ⟨f0, f1, f2, f3, f4, f5⟩ := f
  exact ⟨.ref D, H', I'.turned (t' := s'.toks) (fun b o hb e => (sb.2 b hb).trans e) f0 f1 f3 f4 f5, rfl, q⟩
end
end BF
set_option Elab.async false
set_option linter.all false
set_option maxRecDepth 100000
set_option maxHeartbeats 4000000
/-! Own rules: sets of texts that a comprehension fills with texts that are not in it, sorted. -/
namespace BF
open PySem PySem.Spec PyProof.Rows L2 PySem.Froz PpSet
/-- a set of the texts l, as it can be walked -/
def TxR (P : Program) (w : World) (h : Heap) (a : Addr) (l : List Str) : Prop :=
  ∃ D : SD, h.get? a = some (sObj "set" D) ∧ TxOk P w D l ∧ Ris D.2.2.place.toList ∧ (w.params.followText "set-order" = true ∨ D.2.2.led = true)
theorem tail_ris {ep : Nat} {es1 : Array (Int × Value)} {t2 : SetTable} {wasDummy : Bool} (r : Ris t2.place.toList) : Ris (tailTx ep es1 t2 wasDummy).2.2.place.toList := by
  unfold tailTx
  split
  · exact relayAll_ris t2 es1 _
  · exact r
theorem tail_led {ep : Nat} {es1 : Array (Int × Value)} {t2 : SetTable} {wasDummy : Bool} : (tailTx ep es1 t2 wasDummy).2.2.led = t2.led := by
  unfold tailTx
  split
  · exact relayAll_led t2 es1 _
  · rfl
theorem add_ris {h : Int} {v : Value} {D : SD} (r : Ris D.2.2.place.toList) : Ris (addTx h v D).2.2.place.toList := by
  unfold addTx
  refine tail_ris ?_
  have q := layNew_ris D.2.2 D.1 h v r
  split
  · exact q
  · exact q
theorem add_led {h : Int} {v : Value} {D : SD} : (addTx h v D).2.2.led = D.2.2.led := by
  unfold addTx
  rw [tail_led]
  have q := layNew_led D.2.2 D.1 h v
  split
  · exact q
  · exact q
section
variable {P : Program} {w : World} {A : Around} {E : Value → Shared → Prop} {s : Shared} {a : Addr} {l : List Str}
theorem txR_typeIs {s : Shared} (R : TxR P w s.heap a l) : s.TypeIs (.ref a) "set" := let ⟨_, ho, _⟩ := R; ⟨_, ho, rfl⟩
theorem txR_add {k : Str} {u : Tok} {Q : Value → Shared → Prop} (R : TxR P w s.heap a l) (hk : k ∉ l) (hb : l.length + 1 < scanBound)
    (hQ : ∀ h', Heap.SameBut a s.heap h' → TxR P w h' a (k :: l) → Q .none { s with heap := h', toks := s.toks + 1 }) :
    wpAny (model P w) A (call (.builtin "set.add") [.ref a, .str k u]) Q E s := by
  obtain ⟨D, ho, ok, r, led⟩ := id R
  refine wpAny_call_entry PySem.F.slot_set_add (txR_typeIs R) PySem.F.entry_set_add ?_ (PySem.F.args_set_add_2 _ _)
  unfold Builtin.«set.add» Builtin.Frozenset.oneOther
  simp only [List.isEmpty_nil, bind_assoc]
  unfold Builtin.Frozenset.addrOf setAdd
  refine wpAny_bind (wpAny_pure ?_)
  try dsimp only
  refine wpAny_bind (wpAny_pure ?_)
  try dsimp only
  refine wpAny_bind ?_
  refine wpAny_holding ?_
  refine wpAny_bind (wpAny_pyHash_str ?_)
  refine add_x (s := { s with toks := s.toks + 1 }) ho ok hk hb ?_
  show wpAny _ _ (ret Value.none) _ _ _
  have e1 : (s.heap.update a fun _ => sObj "set" (addTx (hashStr w k) (.str k u) D)).get? a = some (sObj "set" (addTx (hashStr w k) (.str k u) D)) := get_upd _ ho rfl
  refine wpAny_pure ⟨_, rfl, hQ _ ?_ ⟨_, e1, add_ok u ok, add_ris r, ?_⟩⟩
  · exact Heap.SameBut.update _ _ _
  · rw [add_led]; exact led
end
def SetTO (P : Program) (w : World) (a : Addr) (l : List Str) : HO := .ext fun h => TxR P w h a l
theorem setT_new {w : World} {P Pw : Program} {ww : World} {H : Hp} {h : Heap} {a : Addr} {l : List Str} (R : TxR P w h a l) : ObjOk Pw ww H h a (SetTO P w a l) := by
  refine ⟨R, ?_, fun h1 h2 R1 k => ?_⟩
  · obtain ⟨D, ho, _⟩ := R
    exact ⟨_, ho⟩
  · obtain ⟨D, ho, x⟩ := R1
    exact ⟨D, k _ ho, x⟩
theorem setT_fresh {h : Heap} (P : Program) (w : World) : TxR P w (h.push { cls := .type "set", dict := none, data := .set #[] 0 (.fresh 0 0 (!w.params.followText "set-order")) }) h.objs.size [] := by
  refine ⟨(#[], 0, .fresh 0 0 (!w.params.followText "set-order")), Heap.get?_push_size _ rfl, TxOk.nil (by rfl), List.Pairwise.nil, ?_⟩
  show _ ∨ (!w.params.followText "set-order") = true
  cases w.params.followText "set-order"
  · exact .inr rfl
  · exact .inl rfl
section
variable {X : Cx} {pins : List (Addr × Obj)} {σ : L2.St} {H : Hp} {s : Shared}
theorem addT_ok {E : Value → Shared → Prop} {D : Addr} {l : List Str} {x : Str} {tx : Tok} {Q : Value → Shared → Prop} (I : Inv X pins σ H s) (hD : H D = some (SetTO X.prog X.w D l)) (hx : x ∉ l) (room : l.length + 1 < scanBound)
    (h : ∀ s', Inv X pins σ (upd H D (SetTO X.prog X.w D (x :: l))) s' → Q .none s') : wpAny (model X.prog X.w) X.A (call (.builtin "set.add") [.ref D, .str x tx]) Q E s := by
  have R : TxR X.prog X.w s.heap D l := (I.hok D _ hD).1
  refine txR_add R hx room fun h' sb new => ?_
  have he : ∃ u, h'.get? D = some u := let ⟨_, ho, _⟩ := new; ⟨_, ho⟩
  exact h _ (I.write (e := D) (t' := s.toks + 1) (by rw [hD]; trivial) (.inl rfl) (fun b u hb hu => (sb.2 b hb).trans hu) he (setT_new new))
end
/-- {e for x in it if t}, each e a text that is not yet in it -/
def tScT (P : Program) (w : World) (wi : TI) (g : TG) (tt : TT) (te : TE) (vs : List Nat) : TE := fun σ H Q => wi σ H fun J H1 => ∀ D, H1 D = none → ∃ W : Nat → Nat → Hp → Prop, (∃ m, W 0 m (upd H1 D (SetTO P w D []))) ∧ ∀ i m H, W i m H →
  (J.stop i H ∧ Q (.ref D) H) ∨ (J.go i H ∧ ∃ Nx : Hp → Prop, (∀ H', Nx H' → ∃ m', m' < m ∧ W (i + 1) m' H') ∧ ∀ x H', J.yld i H x H' → g x (wipe σ vs) H' fun σ2 H2 => wipe σ2 vs = wipe σ vs ∧ tt σ2 H2 fun b H3 =>
    if b = true then te σ2 H3 fun y H4 => ∃ (x : Str) (l : List Str), y = .str x ∧ H4 D = some (SetTO P w D l) ∧ x ∉ l ∧ l.length + 1 < scanBound ∧ Nx (upd H4 D (SetTO P w D (x :: l))) else Nx H3)
section
variable {X : Cx}
theorem scT_core {pins : List (Addr × Obj)} {s : Shared} {σ : L2.St} {H : Hp} {Q : VK} {elt tg iter : Expr} {ifs : List Expr} {scope : Scope} {own : List (PySem.Str × Nat)} {pos pos' : Pos} {wi : TI} {g : TG} {tt : TT} {te : TE} {use : Option (Value → Sem Unit)} {Qf : Value → Shared → Prop}
    (hc : X.calm = true) (hN : X.N.Nodup) (I : Inv X pins σ H s) (hi : PI X tg iter wi) (ok : BlkOk X.N X.env.scope scope own)
    (hg : ∀ (s : Shared) (H : Hp) (C : Addr) (cl : List (PySem.Str × Addr)) (fp : List Addr), PG (X.blk s H scope (compEnvC scope cl C X.env) fp) tg g) (ht : ∀ (s : Shared) (H : Hp) (C : Addr) (cl : List (PySem.Str × Addr)) (fp : List Addr), PTs (X.blk s H scope (compEnvC scope cl C X.env) fp) ifs tt)
    (he : ∀ (s : Shared) (H : Hp) (C : Addr) (cl : List (PySem.Str × Addr)) (fp : List Addr), PE (X.blk s H scope (compEnvC scope cl C X.env) fp) elt te) (hs : ∀ x, foldedSetIterable iter X.env x = pure x)
    (h : tScT X.prog X.w wi g tt te (own.map (·.2)) σ H Q)
    (hRR : ∀ D C s' m H', Inv X pins σ H' s' → Q (.ref D) H' → s'.heap.Ns C m → FpOk X pins H' C → compPost (model X.prog X.w) X.A X.xe use Qf (.ref D) C (.ok .next) s') :
    wpAny (model X.prog X.w) X.A (comprehension (.SetComp elt [⟨tg, iter, ifs, 0⟩] scope pos) scope X.env pos' (newSet (.type "set")) false (eval iter X.env) use) Qf X.xe s := by
  have hfree : ∀ y ∈ scope.names, y.2 = .free → ∃ c, X.env.cells.lookup y.1 = some c := fun y hy e => by
    rcases ok.free y hy e with k | k
    · exact I.ok.has _ (.inl k)
    · exact I.ok.has _ (.inr k)
  refine wpAny_comprehension_free (use := use) rfl hs (closure_ok hfree) ok.kind (fun y hy e => by rw [ok.uniq y hy, e])
    (thn (hi.run pins s σ H _ I h) fun xv s1 hx => thn hx fun itv s2 h2 => ?_)
  obtain ⟨it, fp, tn, J, H2, e, I2, T, st2, f2, q⟩ := h2
  subst e
  refine newSet_ok (newEnv_comp ?_)
  generalize hD : s2.heap.objs.size = D
  have hDn : H2 D = none := I2.hok.fresh (Nat.le_of_eq hD)
  obtain ⟨W, ⟨m0, w0⟩, turn⟩ := q D hDn
  -- the new list
  generalize hs3 : ({ s2 with heap := s2.heap.push { cls := .type "set", dict := none, data := .set #[] 0 (.fresh 0 0 (!X.w.params.followText "set-order")) } } : Shared) = s3
  have I3 : Inv X pins σ (upd H2 D (SetTO X.prog X.w D [])) s3 := by
    rw [← hs3]
    refine I2.laid (t' := s2.toks) (fun b o e => Heap.get?_push_of_some _ e) (Nat.le_of_eq hD) ?_
    rw [← hD]
    exact setT_new (setT_fresh X.prog X.w)
  have h3 : s3.heap = s2.heap.push { cls := .type "set", dict := none, data := .set #[] 0 (.fresh 0 0 (!X.w.params.followText "set-order")) } := by rw [← hs3]
  have sz : ∀ b ∈ fp, b < s2.heap.objs.size := fun b hb => by
    obtain ⟨o, e, _⟩ := T.obj _ _ st2 b hb
    exact Heap.lt_size e
  have f3 : ∀ b ∈ fp, FpOk X pins (upd H2 D (SetTO X.prog X.w D [])) b ∧ b < s3.heap.objs.size := fun b hb => by
    have hlt := sz b hb
    refine ⟨⟨?_, (f2 b hb).2⟩, by rw [h3, Heap.size_push]; exact Nat.lt_succ_of_lt hlt⟩
    rw [upd_ne (by rw [← hD]; exact Nat.ne_of_lt hlt)]
    exact (f2 b hb).1
  have st3 : tn 0 s3.heap := T.keep _ _ _ st2 fun b _ o e => by rw [h3]; exact Heap.get?_push_of_some _ e
  have I4 := block_start I3 ok hN f3
  have pg := hg s3 (upd H2 D (SetTO X.prog X.w D [])) s3.heap.objs.size (cellsFrom (s3.heap.objs.size + 1) scope.names (cloFrom X.env.cells scope.names [])) fp
  have pt := ht s3 (upd H2 D (SetTO X.prog X.w D [])) s3.heap.objs.size (cellsFrom (s3.heap.objs.size + 1) scope.names (cloFrom X.env.cells scope.names [])) fp
  have pe := he s3 (upd H2 D (SetTO X.prog X.w D [])) s3.heap.objs.size (cellsFrom (s3.heap.objs.size + 1) scope.names (cloFrom X.env.cells scope.names [])) fp
  show codeAny _ _ (.compStart (.SetComp elt [⟨tg, iter, ifs, 0⟩] scope pos) 0 (.ref it) (.ref D) (compEnvC scope (cellsFrom (s3.heap.objs.size + 1) scope.names (cloFrom X.env.cells scope.names [])) s3.heap.objs.size X.env)) (compPost (model X.prog X.w) X.A X.xe use Qf (.ref D) s3.heap.objs.size) { s3 with heap := pushCells (s3.heap.push { cls := .type "dict", data := .dict #[] }) scope.names }
  have nfp : ∀ b ∈ fp, (upd H2 D (SetTO X.prog X.w D [])) b = none := fun b hb => (f3 b hb).1.1
  generalize hce : compEnvC scope (cellsFrom (s3.heap.objs.size + 1) scope.names (cloFrom X.env.cells scope.names [])) s3.heap.objs.size X.env = ce at I4 pg pt pe ⊢
  have cL : ce.locals = s3.heap.objs.size := by subst hce; rfl
  generalize hH3 : upd H2 D (SetTO X.prog X.w D []) = H3 at I3 I4 pg pt pe w0 nfp f3
  generalize hs4 : ({ s3 with heap := pushCells (s3.heap.push { cls := .type "dict", data := .dict #[] }) scope.names } : Shared) = s4 at I4 ⊢
  have st4 : tn 0 s4.heap := T.keep _ _ _ st3 fun b _ o e => by rw [← hs4]; exact pushCells_keeps _ _ _ _ (Heap.get?_push_of_some _ e)
  have stat : ∀ {σ' : L2.St} {H' : Hp} {s' : Shared}, Inv (X.blk s3 H3 scope ce fp) [] σ' H' s' → (∀ b ∈ fp, H' b = none) → ∀ b ∈ fp, FpOk (X.blk s3 H3 scope ce fp) [] H' b := fun {σ' H' s'} I' hn b hb =>
    ⟨hn b hb, (I'.ok.exf b hb).1, I'.ok.exfs b hb, .inl hb, fun x c e => (I'.ok.exf b hb).2 x c e, fun p hp => absurd (show p ∈ ([] : List (Addr × Obj)) ++ [] from hp) (by simp)⟩
  have loop : codeAny (model X.prog X.w) X.A (.compLoop (.SetComp elt [⟨tg, iter, ifs, 0⟩] scope pos) 0 (.ref it) (.ref D) ce) (compPost (model X.prog X.w) X.A X.xe use Qf (.ref D) s3.heap.objs.size) s4 := by
    refine compLoopS_any (fun n s' => ∃ i H', Inv (X.blk s3 H3 scope ce fp) [] (wipe σ (own.map (·.2))) H' s' ∧ tn i s'.heap ∧ (∀ b ∈ fp, H' b = none) ∧ W i n H') ?_ m0 ⟨0, H3, I4, st4, nfp, w0⟩
    rintro n s5 ⟨i, H5, I5, st5, n5, w5⟩
    rcases turn i n H5 w5 with ⟨stop, qq⟩ | ⟨go, Nx, hNx, step⟩
    · have td := T.done (X.blk s3 H3 scope ce fp) rfl rfl rfl hc i [] s5 _ H5 (fun _ _ => False) I5 (stat I5 n5) st5 stop
      refine thnF td fun r s6 ⟨hr, I6⟩ => ?_
      subst hr
      -- back in the def's context
      have I7 : Inv X pins σ H5 s6 := I3.call' (ch := fp) I6.os I6.base I6.hok I6.bare fun b hb => ⟨(f3 b hb).1.2.2.2.1, (f3 b hb).1.2.1, (f3 b hb).1.2.2.2.2.1, (f3 b hb).1.2.2.2.2.2⟩
      have nC : H5 s3.heap.objs.size = none := by
        have z : H5 ce.locals = none := I6.free
        rw [cL] at z
        exact z
      obtain ⟨m, hn, _⟩ := I6.loc
      have hn : s6.heap.Ns ce.locals m := hn
      rw [cL] at hn
      exact hRR D s3.heap.objs.size s6 m H5 I7 qq hn (I3.fpOk (Nat.le_refl _) nC)
    · have ti := T.item (X.blk s3 H3 scope ce fp) rfl rfl rfl hc i [] s5 _ H5 (fun _ _ => False) I5 (stat I5 n5) st5 go
      refine thnF ti fun r s6 ⟨u, hr, h6⟩ => ?_
      subst hr
      refine thnF h6 fun _ s7 ⟨x, H7, I7, r7, y7, st7, n7⟩ => ?_
      have I7' := I7.pinned (stat I7 n7) (T.obj _ _ st7)
      refine thnF (pg.run _ s7 _ H7 x u _ I7' r7 (step x H7 y7)) fun _ s8 ⟨σ8, H8, I8, hw8, q8⟩ => ?_
      refine thnF (pt.run _ s8 σ8 H8 _ I8 q8) fun b s9 ⟨H9, I9, q9⟩ => ?_
      -- the turn's end
      have fin : ∀ {s' : Shared} {H' : Hp}, Inv (X.blk s3 H3 scope ce fp) ([] ++ pinsAt fp s7.heap) σ8 H' s' → Nx H' → ∃ m, m < n ∧ ∃ i H', Inv (X.blk s3 H3 scope ce fp) [] (wipe σ (own.map (·.2))) H' s' ∧ tn i s'.heap ∧ (∀ b ∈ fp, H' b = none) ∧ W i m H' := fun {s' H'} I' nx => by
        obtain ⟨m', hm, w'⟩ := hNx H' nx
        have pin' : ∀ b ∈ fp, ∀ o, s7.heap.get? b = some o → s'.heap.get? b = some o ∧ H' b = none := fun b hb o e =>
          let z := I'.pin (b, o) (List.mem_append_right _ (List.mem_append_right _ (mem_pinsAt hb e)))
          ⟨z.1, z.2.1⟩
        have hl : (wipe σ (own.map (·.2))).length = σ8.length := by rw [← hw8, wipe_length]
        refine ⟨m', hm, i + 1, H', (I'.unpinned (pins := [])).weak hl (fun j v e => ?_), T.keep _ _ _ st7 fun b hb o e => (pin' b hb o e).1, fun b hb => ?_, w'⟩
        · rw [← hw8] at e
          exact (wipe_some e).1
        · obtain ⟨o, e, _⟩ := T.obj _ _ st7 b hb
          exact (pin' b hb o e).2
      cases b with
      | false =>
        simp only [Bool.false_eq_true, if_false] at q9 ⊢
        exact fin I9 q9
      | true =>
        simp only [if_true] at q9 ⊢
        refine thnF (pe.run _ s9 σ8 H9 _ I9 q9) fun z s10 ⟨yv, H10, I10, r10, x, l, ey, hD10, hx, hz10, nx⟩ => ?_
        subst ey
        obtain ⟨tx, rfl⟩ := r10
        exact addT_ok (X := X.blk s3 H3 scope ce fp) I10 hD10 hx hz10 fun s11 I11 => fin I11 nx
  exact codeAny_compStart_set loop (T.self X.A 0 _ _ _ st4 loop)
theorem pe_scT {elt tg iter : Expr} {ifs : List Expr} {scope : Scope} {own : List (PySem.Str × Nat)} {pos : Pos} {wi : TI} {g : TG} {tt : TT} {te : TE} (hc : X.calm = true) (hN : X.N.Nodup) (hi : PI X tg iter wi) (ok : BlkOk X.N X.env.scope scope own)
    (hg : ∀ (s : Shared) (H : Hp) (C : Addr) (cl : List (PySem.Str × Addr)) (fp : List Addr), PG (X.blk s H scope (compEnvC scope cl C X.env) fp) tg g) (ht : ∀ (s : Shared) (H : Hp) (C : Addr) (cl : List (PySem.Str × Addr)) (fp : List Addr), PTs (X.blk s H scope (compEnvC scope cl C X.env) fp) ifs tt)
    (he : ∀ (s : Shared) (H : Hp) (C : Addr) (cl : List (PySem.Str × Addr)) (fp : List Addr), PE (X.blk s H scope (compEnvC scope cl C X.env) fp) elt te) (hs : ∀ x, foldedSetIterable iter X.env x = pure x := by intro _; rfl) :
    PE X (.SetComp elt [⟨tg, iter, ifs, 0⟩] scope pos) (tScT X.prog X.w wi g tt te (own.map (·.2))) := by
  refine ⟨fun pins s σ H Q I h => ?_⟩
  rw [eval_SetComp]
  refine scT_core hc hN I hi ok hg ht he hs h fun D C s' m H' I' q hn f => ⟨m, hn, fun h'' sb => ?_⟩
  obtain ⟨f0, f1, f2, f3, f4, f5⟩ := f
  exact ⟨.ref D, H', I'.turned (t' := s'.toks) (fun b o hb e => (sb.2 b hb).trans e) f0 f1 f3 f4 f5, rfl, q⟩
end
end BF
set_option Elab.async false
set_option linter.all false
set_option maxRecDepth 100000
set_option maxHeartbeats 4000000
/-! Own rules: sorted of a set of texts. -/
namespace BF
open PySem PySem.Spec PyProof.Rows L2 PySem.Froz PpSet
theorem strs_of_all : ∀ (vs : List Value), (∀ v ∈ vs, ∃ k t, v = Value.str k t) → ∃ ks : List Str, StrsAre vs ks ∧ ks.length = vs.length
  | [], _ => ⟨[], .nil, rfl⟩
  | v :: vs, h => by
    obtain ⟨k, t, e⟩ := h v List.mem_cons_self
    obtain ⟨ks, a, b⟩ := strs_of_all vs fun u hu => h u (List.mem_cons_of_mem _ hu)
    subst e
    exact ⟨k :: ks, .cons k t a, by rw [List.length_cons, List.length_cons, b]⟩
section
variable {X : Cx}
/-- sorted(s): some list of texts -/
def rSortedSetT (P : Program) (w : World) : List V → Hp → VK → Prop := fun xs H Q => ∃ (a : Addr) (l : List Str), xs = [.ref a] ∧ H a = some (SetTO P w a l) ∧ l.length < 64 ∧ ∀ (ys : List Str) (p : Addr), H p = none → Q (.ref p) (upd H p (.lst (ys.map V.str)))
theorem cr_sortedSetT (hcalm : X.calm = true) : CallR X (.builtin "sorted") (rSortedSetT X.prog X.w) := by
  intro pins s σ H xs us Q I r q
  obtain ⟨a, l, ex, hd, h64, q⟩ := q
  subst ex
  obtain ⟨u, eu, rx⟩ := vals1 r
  subst eu
  cases rx
  have R : TxR X.prog X.w s.heap a l := (I.hok a _ hd).1
  obtain ⟨⟨es, ep, t⟩, ho, ok, ris, led⟩ := id R
  have hsz : es.size = l.length := ok.sz
  refine Calls.call_function_entry PyProof.Rows.kind_sorted PyProof.Rows.plain_sorted PyProof.Rows.entry_sorted (PyProof.Rows.args_sorted1 _) ?_
  unfold Builtin.«sorted»
  refine wpAny_bind (m := checkCount "sorted" 1 1 _) (wpAny_pure ?_)
  refine wpAny_bind (collect_set (A := X.A.in1) (I.ok.hd hcalm) ⟨_, ho, rfl, rfl⟩ ok.fit (by show es.size < 4096; omega) ris led fun s1 vs k1 hz g1 o1 pm => ?_)
  have hvl : vs.length = l.length := by rw [pm.length_eq, List.length_map, Array.length_toList]; exact hsz
  have hall : ∀ v ∈ vs, ∃ k t, v = Value.str k t := fun v hv => by
    obtain ⟨e, he, qe⟩ := List.mem_map.mp (pm.mem_iff.mp hv)
    obtain ⟨⟨k, hk, _⟩, _⟩ := ok.el e he
    obtain ⟨t, ev⟩ := Value.isStrOf_shape (x := k) (v := e.2) hk
    exact ⟨k, t, by rw [← qe]; exact ev⟩
  obtain ⟨ks, hS, hkl⟩ := strs_of_all vs hall
  have e1 : s1 = { s with heap := s1.heap, gens := s1.gens, drawn := s1.drawn, toks := s1.toks } := by
    cases s1
    cases s
    cases o1
    rfl
  have hn := I.hok.fresh hz
  have I1 : Inv X pins σ H s1 := by
    rw [e1]
    exact I.call (ch := []) (Un.kept k1) (I.hok.kept k1) (by rw [g1]; exact I.bare) (fun _ z => nomatch z)
  refine wpAny_bind (wpAny_newList ?_ (by rw [hvl, sizeLine_eq]; omega))
  have hoL : (s1.heap.push (seqObj "list" vs.toArray 0)).get? s1.heap.objs.size = some (seqObj "list" vs.toArray 0) := Heap.get?_push_size _ rfl
  show wpAny _ _ _ _ _ { s1 with heap := s1.heap.push (seqObj "list" vs.toArray 0) }
  refine wpAny_bind (wpAny_holding (wpAny_call_entry PyProof.Rows.slot_list_sort ⟨_, hoL, rfl⟩ PyProof.Rows.entry_list_sort
    (list_sort_treeK strKind_oneLt (s := { s1 with heap := s1.heap.push (seqObj "list" vs.toArray 0) }) hoL hS.keysOf (fun v₁ v₂ rest e => keyKind_strs (by rw [← e]; exact hS)) (by rw [hvl]; exact h64) fun st' hp hs => ⟨_, rfl, ?_⟩)
    (PyProof.Rows.args_list_sort _)))
  obtain ⟨ys, g1, g2, g3⟩ := sorted_out_str hS hp hs
  obtain ⟨e', he'⟩ := PyProof.Rows.sortedHeap_at (vs := vs) (out := (arrOf st').map (·.2)) hoL
  have hlen : (ys.map V.str).length ≤ sizeLine := by
    rw [List.length_map, g2.length_eq, hkl, hvl]
    exact Nat.le_trans (Nat.le_of_lt h64) (by decide)
  refine wpAny_pure ⟨_, rfl, .ref s1.heap.objs.size, upd H s1.heap.objs.size (.lst (ys.map V.str)), I1.laid (t' := s1.toks) (fun b u e => ?_) (Nat.le_refl _)
    (show ObjOk X.prog X.w _ _ _ (.lst (ys.map V.str)) from ⟨hlen, ((arrOf st').map (·.2)).toList, e', vals_of_strs g1, by rw [Array.toArray_toList]; exact he'⟩), rfl, q ys _ (I1.hok.fresh (Nat.le_refl _))⟩
  have hb : b < s1.heap.objs.size := Heap.lt_size e
  rw [PyProof.Rows.sortedHeap_old (Nat.ne_of_lt hb) (by rw [size_push']; exact Nat.lt_succ_of_lt hb)]
  exact Heap.get?_push_of_some _ e
end
end BF
set_option Elab.async false
set_option linter.all false
set_option maxRecDepth 100000
set_option maxHeartbeats 4000000
/-! Own rules: len(set(xs)) of different texts (turned from the layer's rule for at most one). -/
namespace BF
open PySem PySem.Spec PyProof.Rows
section
variable {prog : Program} {w : World} {A : Around} {R : Result → Shared → Prop} {I : Addr} {fp wr : List Addr} {G : Array GenState → Array GenState → Prop} {n : Nat} {P : Nat → Value → Prop} {St : Nat → Shared → Prop}
theorem loopTxt (W : WalksS prog w A.in1 I fp wr G n P St) (S : Addr) (hSf : S ∉ fp) (xs : List Str) (hsz : xs.length = n) (hnd : xs.Nodup) (hn1 : n < 4000)
    (hval : ∀ i v, P i v → ∃ t, v = .str (xs.getD i Str.empty) t) :
    ∀ (k i : Nat) (s : Shared), n - i = k → i ≤ n → St i s →
      s.heap.SetOf (PySem.strKind prog w) S (fun k' => (xs.take i).any (· == k')) i →
      (∀ s', Moved (S :: wr) G s s' → s'.heap.SetOf (PySem.strKind prog w) S (fun k' => (xs.take n).any (· == k')) n → R (.ok (.ret .none)) s') →
      codeAny (model prog w) A (.builtin "set.update.loop" ⟨[.ref S, .ref I], []⟩) R s := by
  have hSw : S ∉ wr := fun h => hSf (W.sub _ h)
  have hsub : ∀ b ∈ wr, b ∈ S :: wr := fun b hb => List.mem_cons_of_mem _ hb
  intro k
  induction k with
  | zero =>
    intro i s hk hi hst hS hR
    have hin : i = n := by omega
    subst hin
    refine codeAny_builtin PyProof.Rows.F.entry_set_update_loop ?_
    rw [Around.under_plainId PyProof.Rows.F.plain_set_update_loop _]
    show wpAny _ A.in1 (pyNext (.ref I) >>= _) _ _ s
    refine wpAny_bind (W.done s _ _ hst fun s' hm => ?_)
    show wpAny _ A.in1 (ret Value.none) _ _ s'
    exact wpAny_pure (hR s' (hm.mono hsub) (by
      obtain ⟨o, es, ep, t, ho, rest⟩ := hS
      exact ⟨o, es, ep, t, hm.heap S _ hSw ho, rest⟩))
  | succ k ih =>
    intro i s hk hi hst hS hR
    have hlt : i < n := by omega
    refine codeAny_builtin PyProof.Rows.F.entry_set_update_loop ?_
    rw [Around.under_plainId PyProof.Rows.F.plain_set_update_loop _]
    show wpAny _ A.in1 (pyNext (.ref I) >>= _) _ _ s
    refine wpAny_bind (W.item i s _ _ hlt hst fun v s' hP hst' hm => ?_)
    obtain ⟨t, rfl⟩ := hval i v hP
    have hS' : s'.heap.SetOf (PySem.strKind prog w) S (fun k' => (xs.take i).any (· == k')) i := by
      obtain ⟨o, es, ep, tb, ho, rest⟩ := hS
      exact ⟨o, es, ep, tb, hm.heap S _ hSw ho, rest⟩
    show wpAny _ A.in1 (holding [Value.str (xs.getD i Str.empty) t] (setAdd S (.str (xs.getD i Str.empty) t)) >>= _) _ _ s'
    refine wpAny_bind (wpAny_holding ?_)
    unfold setAdd
    refine wpAny_holding ?_
    refine wpAny_bind ((PySem.strKind prog w).pyHash (k := xs.getD i Str.empty) (strKind_is _ _ _ _) ?_)
    refine wpAny_setAddHashed_of (knd := PySem.strKind prog w) (s := { s' with toks := s'.toks + 1 }) (strKind_is _ _ _ _) rfl hS' (by unfold scanBound; omega) fun h' hsb hS2 => ?_
    have hSi : h'.SetOf (PySem.strKind prog w) S (fun k' => (xs.take (i + 1)).any (· == k')) (i + 1) := by
      have hlx : i < xs.length := by omega
      have hgx : xs.getD i Str.empty = xs[i] := by rw [List.getD_eq_getElem?_getD, List.getElem?_eq_getElem hlx]; rfl
      have hno : (xs.take i).any (· == xs[i]) = false := by
        rw [List.any_eq_false]
        intro y hy e
        have e := beq_iff_eq.mp e
        subst e
        obtain ⟨m, hm, em⟩ := List.mem_take_iff_getElem.mp hy
        have := (List.getElem_inj hnd).mp em
        omega
      rw [hgx] at hS2
      refine SetOf_congr hS2 (fun k' => ?_) (by rw [hno]; rfl)
      rw [List.take_succ_eq_append_getElem hlx, List.any_append]
      congr 1
      by_cases e : k' = xs[i]
      · subst e; simp
      · have hb : (xs[i] == k') = false := by simpa [beq_iff_eq] using (fun h' : xs[i] = k' => e h'.symm)
        simp [hb, e]
    refine wpAny_pure ⟨plainId_quiet PyProof.Rows.F.plain_set_update_loop _, ih (i + 1) _ (by omega) hlt (W.frame _ s' _ _ hst' (Nat.le_succ _) fun b hb o e => ?_) hSi fun s'' hm'' hS'' => ?_⟩
    · rw [hsb.2 b (fun h : b = S => hSf (by rw [← h]; exact hb))]; exact e
    · refine hR s'' (Moved.trans W.gtrans ((hm.mono hsub).then_heap (Nat.le_succ _) fun b o hb e => ?_) hm'') hS''
      rw [hsb.2 b (fun h : b = S => hb (by rw [h]; exact List.mem_cons_self))]; exact e
end
section
variable {prog : Program} {w : World} {A : Around} {E : Value → Shared → Prop} {s : Shared}
set_option maxHeartbeats 3200000 in
theorem call_set_listTx {l : Addr} {items : Array Value} {xs : List Str} {Q : Value → Shared → Prop}
    (hh : A.handled = none) (hl : s.heap.IsList l items) (hi : PyProof.Rows.StrsAre items.toList xs) (hnd : xs.Nodup) (hn1 : xs.length < 4000)
    (h : ∀ (h' : Heap) (tk : Nat), h'.SetOf (PySem.strKind prog w) s.heap.objs.size (fun k' => (xs.take items.size).any (· == k')) items.size →
      (∀ b o, b < s.heap.objs.size → s.heap.get? b = some o → h'.get? b = some o) → Q (.ref s.heap.objs.size) { s with heap := h', toks := tk }) :
    wpAny (model prog w) A (call (.type "set") [.ref l]) Q E s := by
  obtain ⟨c, tl, hmro⟩ := PySem.F.called_set.mro
  have hmade := PySem.F.called_set.made
  have hsub := PySem.F.called_set.sub
  refine wpAny_call (codeAny_of_tree ?_)
  show wpAny _ _ (callAny (.type "set") _) _ _ _
  refine wpAny_pure ⟨Code.quiet_builtin _ (by decide +kernel), codeAny_builtin PySem.F.entry_type_call ?_⟩
  rw [Around.under_plain (weight_type_call_type "set" [.ref l] []) rfl]
  have h1 := PySem.F.called_set.notType
  have h2 := PySem.F.called_set.canCreate
  have hct := PySem.F.typeCall_set_1 (.ref l)
  repeat (any_goals (first | assumption | wp_step))

  refine codeAny_mono (code_set_new_1 (.ref l) (E := E) (Q₁ := fun obj s₁ => ∃ led : Bool, obj = .ref s.heap.objs.size ∧ s₁ = { s with heap := s.heap.push { cls := .type "set", dict := none, data := .set #[] 0 (.fresh 0 0 led) } }) fun led => ⟨led, rfl, rfl⟩) fun r s₁ hr => ?_
  cases r with
  | error e => exact hr
  | ok fl =>
    cases fl with
    | ret obj =>
      obtain ⟨led, rfl, rfl⟩ := hr
      have hS : (s.heap.push { cls := .type "set", dict := none, data := .set #[] 0 (.fresh 0 0 led) }).get? s.heap.objs.size = some { cls := .type "set", dict := none, data := .set #[] 0 (.fresh 0 0 led) } := Heap.get?_push_size _ rfl
      have hT : Shared.TypeIs { s with heap := s.heap.push { cls := .type "set", dict := none, data := .set #[] 0 (.fresh 0 0 led) } } (.ref s.heap.objs.size) "set" := ⟨_, hS, rfl⟩
      have hli := PySem.F.called_set.init.lookup
      have hbi := PySem.F.called_set.init.bind (.ref s.heap.objs.size)
      repeat (any_goals (first | assumption | wp_step))

      refine codeAny_mono (codeAny_call_builtin (R := wants (fun r s₂ => r = .none ∧ ∃ h' tk, s₂ = { s with heap := h', toks := tk } ∧
          h'.SetOf (PySem.strKind prog w) s.heap.objs.size (fun k' => (xs.take items.size).any (· == k')) items.size ∧
          (∀ b o, b < s.heap.objs.size → s.heap.get? b = some o → h'.get? b = some o)) E) PySem.F.called_set.init.plain PySem.F.entry_set_init (check_set_init_1 hT ?_)) fun r₂ s₂ hr₂ => ?_
      · obtain ⟨ol, hol, hcl, nl, hdl⟩ := hl
        obtain ⟨ocls, odict, odata, oslots⟩ := ol
        simp only at hcl hdl
        subst hcl; subst hdl
        have hol' : (s.heap.push { cls := .type "set", dict := none, data := .set #[] 0 (.fresh 0 0 led) }).get? l = some { cls := .type "list", dict := odict, data := .seq items nl, slots := oslots } := Heap.get?_push_of_some _ hol
        have hsls := PySem.F.sub_list_set
        have hslf := PySem.F.sub_list_frozenset
        have hne : (Value.type "list" == Value.type "dict") = false := by decide
        have hl1 : (s.heap.push { cls := .type "set", dict := none, data := .set #[] 0 (.fresh 0 0 led) }).IsList l items := ⟨_, hol', rfl, nl, rfl⟩
        unfold Builtin.«set.__init__» noKeywords Builtin.Frozenset.updateFrom
        generalize hPI : pyIter = PI
        wp_walk
        subst hPI

        refine wpAny_pyIter_list hl1 ?_
        refine wpAny_bind (wpAny_runValue ?_)
        have hlS : l < s.heap.objs.size := Heap.lt_size hol
        have hh3 : A.in1.in1.in1.handled = none := by simp [hh]
        have hneI : l ≠ (s.heap.push { cls := .type "set", dict := none, data := .set #[] 0 (.fresh 0 0 led) }).objs.size := by
          rw [Heap.size_push]; exact Nat.ne_of_lt (Nat.lt_succ_of_lt hlS)
        have hSf : s.heap.objs.size ∉ [(s.heap.push { cls := .type "set", dict := none, data := .set #[] 0 (.fresh 0 0 led) }).objs.size, l] := by
          rw [Heap.size_push]; simp only [List.mem_cons, List.mem_singleton, List.not_mem_nil, or_false, not_or]
          exact ⟨Nat.ne_of_lt (Nat.lt_succ_self _), Nat.ne_of_gt hlS⟩
        have hsz : xs.length = items.size := by rw [← StrsAre.len_eq hi, Array.length_toList]
        have hval : ∀ (i : Nat) (v : Value), items[i]? = some v → ∃ t, v = .str (xs.getD i Str.empty) t := fun i v hv => SS.strs_at hi i v (by rw [Array.getElem?_toList]; exact hv)
        refine loopTxt ((Walks.list hh3 _ l hneI items).toS) s.heap.objs.size
          hSf xs hsz hnd (by rw [← hsz]; exact hn1) hval (items.size - 0) 0 _ (by omega) (Nat.zero_le _)
          ⟨⟨_, Heap.get?_push_size _ rfl, rfl, rfl⟩, (hl1.push _)⟩ ?hS0 ?hR
        case hS0 =>
          have hget : ((s.heap.push { cls := .type "set", dict := none, data := .set #[] 0 (.fresh 0 0 led) }).push { cls := .type "list_iterator", data := .fields #[.ref l, .int 0 0] }).get? s.heap.objs.size
              = some { cls := .type "set", dict := none, data := .set #[] 0 (.fresh 0 0 led) } := Heap.get?_push_of_some _ hS
          exact PyProof.Rows.SetOf_congr ((PyProof.Rows.setObjOf_fresh (knd := PySem.strKind prog w) led).setOf hget (by unfold scanBound; omega)) (fun _ => rfl) rfl
        case hR =>
          intro s' hm hS'
          obtain ⟨h', g', d', tk', os'⟩ := s'
          have eg : g' = s.gens := hm.gens
          have ed : d' = s.drawn := hm.drawn
          have eo : os' = s.os := hm.os
          subst eg; subst ed; subst eo
          show wpAny _ _ _ _ _ _
          refine wpAny_pure ?_
          show wpAny _ _ (ret Value.none) _ _ _
          refine wpAny_pure ⟨rfl, h', tk', rfl, hS', fun b o hb e => ?_⟩
          have hb1 : b ≠ s.heap.objs.size := Nat.ne_of_lt hb
          have hb2 : b ≠ (s.heap.push { cls := .type "set", dict := none, data := .set #[] 0 (.fresh 0 0 led) }).objs.size := by
            rw [Heap.size_push]; exact Nat.ne_of_lt (Nat.lt_succ_of_lt hb)
          exact hm.heap b o (by simp only [List.mem_cons, List.mem_singleton, List.not_mem_nil, or_false, not_or]; exact ⟨hb1, hb2⟩) (Heap.get?_push_of_some _ (Heap.get?_push_of_some _ e))

      · cases r₂ with
        | error e => exact hr₂
        | ok fl₂ =>
          cases fl₂ with
          | ret r =>
            obtain ⟨rfl, h', tk, rfl, hS', hk'⟩ := hr₂
            repeat (any_goals (first | assumption | wp_step))
            exact h _ _ hS' hk'
          | _ => exact hr₂.elim
    | _ => exact hr.elim
end
end BF
namespace BF
open PySem PySem.Spec PyProof.Rows L2
section
variable {X : Cx}
def tLenSetT (K : PySem.W.Frag) (ta : TE) : TE := fun σ H Q => ta σ H fun x H1 => ∃ l, ∃ xs : List Str, x = .ref l ∧ SqL K H1 l (xs.map V.str) ∧ xs.Nodup ∧ xs.length < 4000 ∧ Q (.int xs.length) H1
theorem pe_lenSetT {a : Expr} {ta : TE} {p p2 q pos : Pos} (hc : X.calm = true) (hg : Gl X "len") (hm : X.mg "len" = none) (hg2 : Gl X "set") (hm2 : X.mg "set" = none) (ha : PE X a ta)
    (na : starEach [a] X.env = (false, eval a X.env) :: starEach [] X.env := by rfl) : PE X (.Call (.Name "len" p) [.Call (.Name "set" p2) [a] [] q] [] pos) (tLenSetT X.K ta) := by
  refine ⟨fun pins s σ H Q I h => ?_⟩
  refine Call_ (ld_blt I hg hm boot_len ?_)
  refine PyProof.Rows.callWith_builtin1 (PyProof.Rows.args_cons ?_ rfl) rfl rfl
  refine Call_ (ld_blt I hg2 hm2 boot_set ?_)
  refine PyProof.Rows.callWith_type1 (PyProof.Rows.args_cons (thn (ha.run pins s σ H _ I h) fun v s1 ⟨x, H1, I1, r1, q1⟩ => PyProof.Rows.args_nil ?_) na) na rfl
  obtain ⟨l, xs, rfl, hq, hnd, h1, q1⟩ := q1
  cases r1
  have fin : ∀ (its : List Value), Vals (xs.map V.str) its → ∀ (h' : Heap) (tk : Nat), h'.SetOf (PySem.strKind X.prog X.w) s1.heap.objs.size (fun k' => (xs.take its.toArray.size).any (· == k')) its.toArray.size →
      (∀ b o, b < s1.heap.objs.size → s1.heap.get? b = some o → h'.get? b = some o) →
      wpAny (model X.prog X.w) X.A (spliced (backTo pos (starEach [] X.env))) (fun vs s₂ => wpAny (model X.prog X.w) X.A (call (.builtin "len") (Value.ref s1.heap.objs.size :: vs)) (EP X pins σ Q) X.xe s₂) X.xe { s1 with heap := h', toks := tk } := fun its r h' tk hS hk => by
    refine PyProof.Rows.args_nil ?_
    have hl : its.toArray.size = xs.length := by rw [List.size_toArray, ← r.length, List.length_map]
    rw [hl] at hS
    obtain ⟨o, es, ep, t, ho, hex, hd, _, _, _, hf, hn⟩ := hS
    have I2 : Inv X pins σ H1 { s1 with heap := h', toks := tk } := I1.kept fun b o e => hk b o (Heap.lt_size e) e
    refine call_len_set ho hex hd hf (by rw [hn] <;> omega) ⟨.int xs.length, H1, I2.tok _, ⟨_, by rw [hn]⟩, q1⟩
  obtain ⟨its, r, pl, hz⟩ := I1.list hq
  exact call_set_listTx (I1.ok.hd hc) pl.isList (by simpa using strsAre_of r) hnd h1 fun h' tk hS hk => fin its r h' tk hS hk
end
end BF
set_option Elab.async false
set_option linter.all false
set_option maxRecDepth 100000
set_option maxHeartbeats 4000000
/-! Own rules: sorted of a list of tuples of texts: some arrangement. -/
namespace BF
open PySem PySem.Spec PyProof.Rows L2
theorem each_zip {xs : List V} {us : List Value} (r : Vals xs us) : ∀ {ds : List PyData}, xs.length = ds.length → PySem.W.EachIs (fun u (b : V × PyData) => L2.RelV b.1 u) us (xs.zip ds) := by
  induction r with
  | nil => intro ds _; exact .nil
  | cons h t ih =>
    intro ds e
    cases ds with
    | nil => simp at e
    | cons d ds => exact .cons h (ih (by simpa using e))
theorem each_vals : ∀ {us : List Value} {bs : List (V × PyData)}, PySem.W.EachIs (fun u (b : V × PyData) => L2.RelV b.1 u) us bs → Vals (bs.map (·.1)) us
  | _, _, .nil => .nil
  | _, _, .cons h t => .cons h (each_vals t)
theorem zip_fst {xs : List V} : ∀ {ds : List PyData}, xs.length = ds.length → (xs.zip ds).map (·.1) = xs := by
  induction xs with
  | nil => intro ds _; rfl
  | cons x xs ih =>
    intro ds e
    cases ds with
    | nil => simp at e
    | cons d ds => rw [List.zip_cons_cons, List.map_cons, ih (by simpa using e)]
theorem zip_snd {xs : List V} : ∀ {ds : List PyData}, xs.length = ds.length → (xs.zip ds).map (·.2) = ds := by
  induction xs with
  | nil =>
    intro ds e
    cases ds with
    | nil => rfl
    | cons d ds => simp at e
  | cons x xs ih =>
    intro ds e
    cases ds with
    | nil => simp at e
    | cons d ds => rw [List.zip_cons_cons, List.map_cons, ih (by simpa using e)]
theorem dpAll_len {K : PySem.W.Frag} {H : Hp} : ∀ {xs : List V} {ds : List PyData}, DpAll K H xs ds → xs.length = ds.length
  | _, _, .nil => rfl
  | _, _, .cons _ t => by rw [List.length_cons, List.length_cons, dpAll_len t]
theorem perm_small {β : Type} : ∀ {l m : List β}, l.Perm m → m.length ≤ 1 → l = m
  | _, [], pm, _ => pm.eq_nil
  | _, [u], pm, _ => List.perm_singleton.mp pm
  | _, _ :: _ :: _, _, h => absurd h (by simp)
section
variable {X : Cx}
def rSortedDat (K : PySem.W.Frag) : List V → Hp → VK → Prop := fun vs H Q => ∃ (a : Addr) (xs : List V) (ds : List PyData), vs = [.ref a] ∧ SqL K H a xs ∧
  (xs.length ≤ 1 ∨ (DpAll K H xs ds ∧ PySem.W.AllAlike ds ∧ (∀ d ∈ ds, ∃ x r, d = .tuple (x :: r)) ∧ ∀ d ∈ ds, d.depth ≤ 8)) ∧
  ∀ (ys : List V) (p : Addr), ys.Perm xs → H p = none → Q (.ref p) (upd H p (.lst ys))
theorem cr_sortedDat (hu : X.A.units + 64 < cLine) : CallR X (.builtin "sorted") (rSortedDat X.K) := by
  intro pins s σ H vs us Q I r h
  obtain ⟨a, xs, ds, rfl, hl, hc, q⟩ := h
  rw [Vals.ref1 r]
  obtain ⟨its, rv, pl, hz⟩ := I.list hl
  have hil := rv.length
  have fin : ∀ (out : List Value) (ys : List V), Vals ys out → ys.Perm xs → EP X pins σ Q (.ref (s.heap.objs.size + 1)) { s with heap := sortedAll s.heap its out.toArray } := fun out ys ro pm => by
    obtain ⟨e, he⟩ := sortedAll_at s.heap its out.toArray
    have new : ObjOk X.prog X.w (upd H (s.heap.objs.size + 1) (.lst ys)) (sortedAll s.heap its out.toArray) (s.heap.objs.size + 1) (.lst ys) := ⟨by rw [pm.length_eq]; exact hz, out, e, ro, he⟩
    have J : Inv X pins σ (upd H (s.heap.objs.size + 1) (.lst ys)) { s with heap := sortedAll s.heap its out.toArray, toks := s.toks } := I.laid (t' := s.toks) (a := s.heap.objs.size + 1) (h' := sortedAll s.heap its out.toArray) (fun b u hb => sortedAll_old hb) (Nat.le_succ _) new
    exact ⟨.ref (s.heap.objs.size + 1), _, J, rfl, q ys _ pm (I.hok.fresh (Nat.le_succ _))⟩
  rcases hc with h1 | ⟨hd, hal, hk, hdp⟩
  · have O : SrtO.Swo (fun _ _ : Value => false) := ⟨fun _ _ h => absurd h Bool.false_ne_true, fun _ _ _ _ _ => rfl⟩
    have n2 : ¬ 2 ≤ its.length := by omega
    have hz2 : its.length ≤ sizeLine := by rw [← hil]; exact hz
    refine SrtO.sorted_ord (prog := X.prog) (w := X.w) (A := X.A) (E := X.xe) (s := s) (l := a) (vs := its) (ltv := fun _ _ : Value => false) (Q := EP X pins σ Q) O pl.isList hz2 (fun h2 => (n2 h2).elim) fun out so st => ?_
    have e : out = its := perm_small st.perm (by omega)
    subst e
    exact fin _ xs rv (List.Perm.refl _)
  · obtain ⟨as, h4⟩ := Dp.readsAll I ds _ its hd rv
    have hlen := dpAll_len hd
    have hr : PySem.W.EachIs (fun v (b : V × PyData) => ∃ as, Reads s.heap v b.2 as) its (xs.zip ds) := by
      have go : ∀ (ds : List PyData) (xs : List V) (its : List Value) (as : List Addr), xs.length = ds.length → xs.length = its.length → ReadsAll s.heap its ds as → PySem.W.EachIs (fun v (b : V × PyData) => ∃ as, Reads s.heap v b.2 as) its (xs.zip ds) := by
        intro ds
        induction ds with
        | nil =>
          intro xs its as e1 e2 h
          cases xs with
          | nil =>
            cases its with
            | nil => exact .nil
            | cons _ _ => simp at e2
          | cons _ _ => simp at e1
        | cons d ds ih =>
          intro xs its as e1 e2 h
          cases xs with
          | nil => simp at e1
          | cons x xs =>
            cases its with
            | nil => simp at e2
            | cons u its =>
              cases h with
              | cons r1 r2 => exact .cons ⟨_, r1⟩ (ih xs its _ (by simpa using e1) (by simpa using e2) r2)
      exact go ds xs its as hlen hil h4
    refine PySem.W.sorted_data (R := fun u (b : V × PyData) => L2.RelV b.1 u) (enc := fun b : V × PyData => b.2) (bs := xs.zip ds) pl.isList (each_zip rv hlen) hr (by rw [zip_snd hlen]; exact hal) (.inl fun d hd => ?_) ?_ (fun b hb => ?_) fun out _ e => ?_
    · rw [zip_snd hlen] at hd
      exact hk d hd
    · rw [List.length_zip, ← hlen, Nat.min_self]; exact hz
    · have : b.2 ∈ ds := by
        rw [← zip_snd hlen]
        exact List.mem_map.mpr ⟨b, hb, rfl⟩
      have := hdp _ this
      omega
    · refine fin out _ (each_vals e) ?_
      have pm := (List.mergeSort_perm (xs.zip ds) (PySem.W.dataLe false fun b : V × PyData => b.2)).map (·.1)
      rw [zip_fst hlen] at pm
      exact pm
end
end BF
set_option Elab.async false
set_option linter.all false
set_option maxRecDepth 100000
set_option maxHeartbeats 4000000
/-! Own rules: dict(pairs), the keys tuples. -/
namespace BF
open PySem PySem.Spec PyProof.Rows L2
/-- a pair: its own address, its key, the key's address, its value -/
abbrev Pr := Addr × List Key × Addr × V
theorem storedAll_nd {κ : Type} [DecidableEq κ] : ∀ (ps acc : List (κ × Addr × Value)), ((acc ++ ps).map (·.1)).Nodup → storedAllH acc ps = acc ++ ps
  | [], acc, _ => by show acc = acc ++ []; rw [List.append_nil]
  | p :: ps, acc, h => by
    have hn : atKey acc p.1 = none := by
      cases e : atKey acc p.1 with
      | none => rfl
      | some q =>
        exfalso
        have hm : p.1 ∈ acc.map (·.1) := by
          unfold atKey at e
          obtain ⟨z, hz, _⟩ := Option.map_eq_some_iff.mp e
          have h1 := List.mem_of_find?_eq_some hz
          have h2 := List.find?_some hz
          have h2 : z.1 = p.1 := by simpa using h2
          exact List.mem_map.mpr ⟨z, h1, h2⟩
        rw [List.map_append, List.map_cons] at h
        exact (List.nodup_append.mp h).2.2 _ hm _ List.mem_cons_self rfl
    show storedAllH (storedH acc p.1 p.2.1 p.2.2) ps = _
    rw [storedH_new hn]
    have e : acc ++ [(p.1, p.2.1, p.2.2)] = acc ++ [p] := rfl
    rw [e, storedAll_nd ps (acc ++ [p]) (by rw [List.append_assoc]; exact h), List.append_assoc]
    rfl
section
variable {X : Cx}
structure PrOk (H : Hp) (p : Pr) : Prop where
  t : H p.1 = some (.tup [.ref p.2.2.1, p.2.2.2])
  k : H p.2.2.1 = some (.tup (p.2.1.map kV))
def rDictT (K : PySem.W.Frag) : List V → Hp → VK → Prop := fun vs H Q => ∃ (a : Addr) (ps : List Pr), vs = [.ref a] ∧ SqL K H a (ps.map fun p => V.ref p.1) ∧ (∀ p ∈ ps, PrOk H p) ∧ (ps.map (·.2.1)).Nodup ∧
  ∀ d, H d = none → Q (.ref d) (upd H d (.dT (ps.map fun p => (p.2.1, p.2.2.2))))
theorem cr_dictT (hc : X.calm = true) (hu : X.A.units + 2 < cLine) : CallR X (.type "dict") (rDictT X.K) := by
  intro pins s σ H vs us Q I r h
  obtain ⟨a, ps, rfl, hl, hp, hnd, q⟩ := h
  rw [Vals.ref1 r]
  obtain ⟨its, rv, pl, hz⟩ := I.list hl
  rw [List.length_map] at hz
  -- the values
  have hv : ∀ ps : List Pr, (∀ p ∈ ps, PrOk H p) → ∃ vs : List Value, vs.length = ps.length ∧ ∀ (j : Nat) (p : Pr), ps[j]? = some p → ∃ u, vs[j]? = some u ∧ L2.RelV p.2.2.2 u ∧ s.heap.IsTuple p.1 #[.ref p.2.2.1, u] := by
    intro ps
    induction ps with
    | nil => intro _; exact ⟨[], rfl, fun j p e => by simp at e⟩
    | cons p ps ih =>
      intro hp
      obtain ⟨vs, hl, hvs⟩ := ih fun q hq => hp q (List.mem_cons_of_mem _ hq)
      obtain ⟨_, w2, r2, it⟩ := I.hok _ _ (hp p List.mem_cons_self).t
      cases r2 with
      | cons r3 r4 =>
        cases r4 with
        | cons r5 r6 =>
          cases r6
          cases r3
          rename_i u0
          refine ⟨u0 :: vs, by rw [List.length_cons, List.length_cons, hl], fun j q e => ?_⟩
          cases j with
          | zero =>
            have e : some p = some q := e
            cases e
            exact ⟨_, rfl, r5, it⟩
          | succ j => exact hvs j q (by simpa using e)
  obtain ⟨ws, hwl, hws⟩ := hv ps hp
  let psv : List (List Key × Addr × Value) := (ps.zip ws).map fun z => (z.1.2.1, z.1.2.2.1, z.2)
  let prs : List (Value × Value) := (ps.zip ws).map fun z => (Value.ref z.1.2.2.1, z.2)
  have hzl : (ps.zip ws).length = ps.length := by rw [List.length_zip, hwl, Nat.min_self]
  have hzat : ∀ (j : Nat) (z : Pr × Value), (ps.zip ws)[j]? = some z → ps[j]? = some z.1 ∧ ws[j]? = some z.2 := fun j z e => by
    rw [List.getElem?_zip_eq_some] at e
    exact e
  have hrl := rv.length
  rw [List.length_map] at hrl
  have hI : ∀ (j : Nat) (p : Pr), ps[j]? = some p → its[j]? = some (Value.ref p.1) := fun j p e => by
    obtain ⟨u, e1, e2⟩ := Vals.get rv (i := j) (x := V.ref p.1) (by rw [List.getElem?_map, e]; rfl)
    rw [e1]
    exact congrArg some (show u = Value.ref p.1 from e2)
  have key : ∀ x ∈ psv, ∃ p ∈ ps, x.1 = p.2.1 ∧ x.2.1 = p.2.2.1 := fun x hx => by
    obtain ⟨z, hz, rfl⟩ := List.mem_map.mp hx
    exact ⟨z.1, (List.of_mem_zip hz).1, rfl, rfl⟩
  have hkeys : psv.map (·.1) = ps.map (·.2.1) := by
    show ((ps.zip ws).map fun z => (z.1.2.1, z.1.2.2.1, z.2)).map (·.1) = _
    rw [List.map_map]
    have : (ps.zip ws).map (fun z => z.1) = ps := List.map_fst_zip (by omega)
    conv => rhs; rw [← this]
    rw [List.map_map]; rfl
  refine call_dict_pairsH (knd := tupleKind (mixKind X.prog X.w)) (ps := psv) (wr := []) (PairArg.list a its.toArray (fun j => (ps[j]?.map (·.1)).getD 0) prs) (I.ok.hd hc) (by show X.A.units + 2 < cLine; exact hu) ⟨?_, ?_⟩ ⟨?_, fun i kk vv e => ?_⟩ ?_ ?_ ?_
  · exact pl
  · refine ⟨by rw [List.size_toArray]; show its.length = ((ps.zip ws).map _).length; rw [List.length_map, hzl]; exact hrl.symm, fun j kk vv e => ?_⟩
    rw [List.getElem?_map] at e
    obtain ⟨z, hz, ez⟩ := Option.map_eq_some_iff.mp e
    obtain ⟨h1, h2⟩ := hzat j z hz
    cases ez
    obtain ⟨u, e1, e2, e3⟩ := hws j z.1 h1
    rw [h2] at e1
    cases e1
    refine ⟨?_, ?_⟩
    · show its.toArray[j]? = some (Value.ref ((ps[j]?.map (·.1)).getD 0))
      rw [h1]
      simpa using hI j z.1 h1
    · show PairAt s.heap ((ps[j]?.map (·.1)).getD 0) _ _
      rw [h1]
      exact .inl e3
  · show ((ps.zip ws).map _).length = ((ps.zip ws).map _).length
    rw [List.length_map, List.length_map]
  · have e : prs[i]? = some (kk, vv) := e
    rw [List.getElem?_map] at e
    obtain ⟨z, hz, ez⟩ := Option.map_eq_some_iff.mp e
    cases ez
    exact ⟨z.1.2.1, z.1.2.2.1, by rw [List.getElem?_map, hz]; rfl, rfl⟩
  · intro h' hk x hx
    obtain ⟨p, hpp, e1, e2⟩ := key x hx
    rw [e1, e2]
    have hb := (hp p hpp).k
    have ne : p.2.2.1 ≠ s.heap.objs.size := Nat.ne_of_lt (I.hok.lt hb)
    obtain ⟨ob, items, n, o1, o2⟩ := key_of I.hok hb
    exact ⟨ob, items, n, hk _ _ ne (by simp) o1, o2⟩
  · show ((ps.zip ws).map _).length ≤ sizeLine
    rw [List.length_map, hzl]; exact hz
  · intro h' tk hd' hk
    rw [storedAll_nd psv [] (by rw [List.nil_append, hkeys]; exact hnd), List.nil_append] at hd'
    have hm : (s.heap.objs.size == sysModules) = false := beq_eq_false_iff_ne.mpr (Nat.ne_of_gt I.big)
    obtain ⟨ob, es, ep, hq, h2, h3, h4, _, h5⟩ := hd'
    have hfr := I.hok.fresh (Nat.le_refl s.heap.objs.size)
    have rel : ∀ (ps : List Pr) (ws : List Value), ws.length = ps.length → (∀ p ∈ ps, PrOk H p) → (∀ (j : Nat) (p : Pr), ps[j]? = some p → ∃ u, ws[j]? = some u ∧ L2.RelV p.2.2.2 u) →
        KT (upd H s.heap.objs.size (.dT (ps.map fun p => (p.2.1, p.2.2.2)))) (ps.map fun p => (p.2.1, p.2.2.2)) ((ps.zip ws).map fun z => (z.1.2.1, z.1.2.2.1, z.2)) := by
      intro ps
      generalize (HO.dT (ps.map fun p => (p.2.1, p.2.2.2))) = oo
      induction ps with
      | nil => intro ws _ _ _; exact .nil
      | cons p ps ih =>
        intro ws e hp hr
        cases ws with
        | nil => simp at e
        | cons u ws =>
          obtain ⟨u', e1, e2⟩ := hr 0 p rfl
          have e1 : some u = some u' := e1
          cases e1
          refine .cons ⟨rfl, ?_, e2⟩ (ih ws (by simpa using e) (fun q hq => hp q (List.mem_cons_of_mem _ hq)) fun j q hq => hr (j + 1) q (by simpa using hq))
          rw [upd_ne (ne_of_none (hp p List.mem_cons_self).k hfr)]
          exact (hp p List.mem_cons_self).k
    refine ⟨.ref s.heap.objs.size, upd H s.heap.objs.size (.dT (ps.map fun p => (p.2.1, p.2.2.2))), I.laid (t' := tk) (fun b o e => hk b o (by simp) e) (Nat.le_refl _) ⟨by rw [List.length_map]; exact hz, hm, _, rel ps ws hwl hp (fun j p e => ?_), ob, es, ep, hq, h2, h3, h4, h5⟩, rfl, q _ hfr⟩
    obtain ⟨u, e1, e2, _⟩ := hws j p e
    exact ⟨u, e1, e2⟩
end
end BF
set_option Elab.async false
set_option linter.all false
set_option maxRecDepth 100000
set_option maxHeartbeats 4000000
/-! Own rules: list(d.values()); C() of a class without __init__. -/
namespace BF
open PySem PySem.Spec PyProof.Rows L2
section
variable {X : Cx}
def tListVals (te : TE) : TE := fun σ H Q => te σ H fun x H1 => ∃ d kvs, x = .ref d ∧ H1 d = some (.dK kvs) ∧ ∀ p, H1 p = none → Q (.ref p) (upd H1 p (.lst (kvs.map (·.2))))
theorem pe_listVals {e : Expr} {te : TE} {apos cpos p pos : Pos} (hc : X.calm = true) (he : PE X e te) (hg : Gl X "list") (hm : X.mg "list" = none) (hv : bootBuiltins "list" = some (.type "list")) (hbase : attributeBase e "values" X.env (eval e X.env) = eval e X.env := by rfl) (hline : (apos.endLine == cpos.line) = true := by rfl)
    (hs : starEach [.Call (.Attribute e "values" apos) [] [] cpos] X.env = (false, eval (.Call (.Attribute e "values" apos) [] [] cpos) X.env) :: starEach [] X.env := by rfl) :
    PE X (.Call (.Name "list" p) [.Call (.Attribute e "values" apos) [] [] cpos] [] pos) (tListVals te) := by
  refine ⟨fun pins s σ H Q I hq => ?_⟩
  refine wpAny_Call_Name_kw (ld_blt I hg hm hv ?_)
  refine PyProof.Rows.callWith_type1 ?_ hs rfl
  rw [hs]
  show wpAny _ _ (spliced ((false, eval (.Call (.Attribute e "values" apos) [] [] cpos) X.env) :: backTo pos (starEach [] X.env))) _ _ s
  refine Calls.spliced_cons ?_
  refine wpAny_Call_method (T := "dict") (id := "dict.values") hbase rfl hline PySem.F.plainAttrs_dict PySem.F.slot_dict_values PySem.F.type_dict_values (thn (he.run pins s σ H _ I hq) fun u s1 ⟨x, H1, I1, rx, d, kvs, ex, hd, q⟩ => ?_)
  subst ex
  obtain rfl : u = Value.ref d := rx
  obtain ⟨hz, hs0, vs, kv, hdo⟩ := I1.hok d _ hd
  obtain ⟨ep, hat⟩ := hdo.dictAt
  have lk : kvs.length = vs.length := Paired.length kv
  have I2 : Inv X pins σ H1 { s1 with heap := s1.heap.push { cls := .type "dict_values", data := .fields #[.ref d] } } := I1.kept (t' := s1.toks) fun b ob q => Heap.get?_push_of_some _ q
  refine ⟨hdo.typeIs, hdo.mapOf.noDict, ?_⟩
  show wpAny _ _ (callWith cpos (.builtin "dict.values") [.ref d] [] []) _ X.xe s1
  refine method_meetsIn PySem.F.slot_dict_values PySem.F.entry_dict_values rfl (PySem.evalArgs_none ⟨rfl, hdo.typeIs, PySem.F.args_dict_values_1 _, _, meets_dict_values (mixKind X.prog X.w) d hs0, ⟨vs, hdo⟩, ?_⟩)
  refine Calls.spliced_nil ?_
  refine PySem.W.kdl_call (PySem.W.kdl_values (knd := mixKind X.prog X.w) (kvs := vs) (ep := ep) (r := s1.heap.objs.size) (d := d)) (I1.ok.hd hc) ⟨⟨_, Heap.get?_push_size _ rfl, rfl, rfl⟩, hat.push _⟩ (by omega) fun h' tk acc c hk hS hacc => ?_
  have hal : acc.toList.length = vs.length := by rw [Array.length_toList, hacc.1]
  have ev : acc.toList = vs.map (·.2) := PySem.W.kdl_vals_eq (kvs := vs) acc.toList hal fun j v e => hacc.2 j v (by rw [← Array.getElem?_toList]; exact e)
  have rv : Vals (kvs.map (·.2)) acc.toList := by
    rw [ev]
    have go : ∀ {kvs : List (Key × V)} {vs : List (Key × Value)}, KV kvs vs → Vals (kvs.map (·.2)) (vs.map (·.2)) := by
      intro kvs vs h
      induction h with
      | nil => exact .nil
      | cons a _ ih => exact .cons a.2 ih
    exact go kv
  have e0 : (s1.heap.push ({ cls := .type "dict_values", data := .fields #[.ref d] } : Obj)).objs.size = s1.heap.objs.size + 1 := Heap.size_push ..
  have new : ObjOk X.prog X.w (upd H1 (s1.heap.push ({ cls := .type "dict_values", data := .fields #[.ref d] } : Obj)).objs.size (.lst (kvs.map (·.2)))) h' (s1.heap.push ({ cls := .type "dict_values", data := .fields #[.ref d] } : Obj)).objs.size (.lst (kvs.map (·.2))) :=
    ⟨by rw [List.length_map]; exact hz, acc.toList, c, rv, by rw [Array.toArray_toList]; exact hS⟩
  have J := I2.laid (t' := tk) (h' := h') (a := (s1.heap.push ({ cls := .type "dict_values", data := .fields #[.ref d] } : Obj)).objs.size) hk (Nat.le_refl _) new
  exact ⟨.ref (s1.heap.push ({ cls := .type "dict_values", data := .fields #[.ref d] } : Obj)).objs.size, _, J, rfl, q _ (I2.hok.fresh (Nat.le_refl _))⟩
end
end BF
set_option Elab.async false
set_option linter.all false
set_option maxRecDepth 100000
set_option maxHeartbeats 4000000
/-! Own rules: C() of a class without __init__. -/
namespace BF
open PySem PySem.Spec PyProof.Rows L2
section
variable {X : Cx} {pins : List (Addr × Obj)} {σ : L2.St} {H : Hp} {s : Shared} {C : Addr}
theorem run_make0 {Q : VK} (I : Inv X pins σ H s) (hm : PySem.W.makesIn X.K C = true) (hi : PySem.W.findIn X.K (.ref C) "__init__" = some (some (.builtin "object.__init__")))
    (h : ∀ x dx, H x = none → H dx = none → dx ≠ x → Q (.ref x) (upd (upd H dx (.own x)) x (.ins C dx []))) : wpAny (model X.prog X.w) X.A (call (.ref C) []) (EP X pins σ Q) X.xe s := by
  have hq := h (s.heap.objs.size + 1) s.heap.objs.size (I.hok.fresh (Nat.le_succ _)) (I.hok.fresh (Nat.le_refl _)) (Nat.ne_of_lt (Nat.lt_succ_self _))
  have I2 := Inv.made (C := C) I
  have Y := PySem.W.makes_of (M := model X.prog X.w) I.kIn hm
  have g1 : ((s.heap.push PySem.W.emptyDict).push (PySem.W.instObj C s.heap.objs.size)).get? (s.heap.objs.size + 1) = some (PySem.W.instObj C s.heap.objs.size) := by
    have := Heap.get?_push_size (s.heap.push PySem.W.emptyDict) (show (PySem.W.instObj C s.heap.objs.size).isFreed = false from rfl)
    rwa [Heap.size_push] at this
  have t1 : PySem.W.Looks (model X.prog X.w) ((s.heap.push PySem.W.emptyDict).push (PySem.W.instObj C s.heap.objs.size)) (typeOf (.ref (s.heap.objs.size + 1))) (.ref C) := (PySem.W.Looks.ld g1).andThen .now
  have t2 : PySem.W.Looks (model X.prog X.w) ((s.heap.push PySem.W.emptyDict).push (PySem.W.instObj C s.heap.objs.size)) (isInstance (.ref (s.heap.objs.size + 1)) (.type "object")) true := t1.andThen (Y.top.keeps fun b o e => Heap.get?_push_of_some _ (Heap.get?_push_of_some _ e))
  refine wpAny_call (make_map0 I.kIn hm hi (fun self => PySem.W.Looks.of_pure (PySem.W.oi_bind self)) ?_)
  refine codeAny_call_builtin PySem.W.oi_plain PySem.W.entry_oi (@PySem.W.check_slot (model X.prog X.w) _ _ _ "object.__init__" "object" "__init__" (.ref (s.heap.objs.size + 1)) [] [] _ PySem.W.oi_kind PySem.W.oi_split t2 (PySem.W.oi_args (.ref (s.heap.objs.size + 1))) ?_)
  rw [PySem.W.oi_run]
  exact wpAny_pure ⟨rfl, V.ref (s.heap.objs.size + 1), _, I2, rfl, hq⟩
def tMake0 (C : Addr) : TE := fun _ H Q => ∀ x dx, H x = none → H dx = none → dx ≠ x → Q (.ref x) (upd (upd H dx (.own x)) x (.ins C dx []))
theorem pe_mkO {x : Str} {p pos : Pos} (hkp : PySem.W.keepIn X.K (.ref C) = true) (hmk : PySem.W.makesIn X.K C = true) (hi : PySem.W.findIn X.K (.ref C) "__init__" = some (some (.builtin "object.__init__"))) (hm : X.mg x = some (.ref C)) (hg : Gl X x := by rfl) (hdb : (x == ("__debug__" : Str)) = false := by decide) :
    PE X (.Call (.Name x p) [] [] pos) (tMake0 C) := by
  refine ⟨fun pins s σ H Q I h => ?_⟩
  refine wpAny_Call_Name_kw (ld_glob I hg hm ?_ hdb)
  exact PySem.W.callWith_K0 I.kIn hkp (run_make0 I hmk hi h)
end
end BF
set_option Elab.async false
set_option linter.all false
set_option maxRecDepth 100000
set_option maxHeartbeats 4000000
/-! Own rules: a name bound to a dict comprehension. -/
namespace BF
open PySem PySem.Spec PyProof.Rows L2
theorem sw_trueD {kx vx : Expr} {gs : List Comprehension} {scope : Scope} {pos py : Pos} {y : Str} {l : Nat} {env : Env} (hk : env.scope.kind = .function) (hy : env.scope.names.lookup y = some .local) (hl : (py.line == pos.line) = true)
    (ha : (scope.names.any fun (n, k) => n == y && (k == .local || k == .cell)) = false) : swapsWith (.DictComp kx vx gs scope pos) (some (.Name y py)) l env = pure true := by
  have ky : env.kindOf y = some .local := hy
  have hb : env.blockKind = .function := by unfold Env.blockKind; rw [hk]; rfl
  unfold swapsWith
  simp only [hb, ky, ha, Expr.pos, hl]
  rfl
section
variable {X : Cx}
theorem ps_setDc {i : Nat} {y : Str} {py : Pos} {kx vx tg iter : Expr} {ifs : List Expr} {scope : Scope} {own : List (Str × Nat)} {pos spos : Pos} {wi : TI} {g : TG} {tt : TT} {tk tv : TE} (hc : X.calm = true) (hN : X.N.Nodup) (hy : X.N[i]? = some y) (hyl : X.env.scope.names.lookup y = some .local)
    (hsw : swapsWith (.DictComp kx vx [⟨tg, iter, ifs, 0⟩] scope pos) (some (.Name y py)) spos.line X.env = pure true) (hi : PI X tg iter wi) (ok : BlkOk X.N X.env.scope scope own)
    (hg : ∀ (s : Shared) (H : Hp) (C : Addr) (cl : List (Str × Addr)) (fp : List Addr), PG (X.blk s H scope (compEnvC scope cl C X.env) fp) tg g) (ht : ∀ (s : Shared) (H : Hp) (C : Addr) (cl : List (Str × Addr)) (fp : List Addr), PTs (X.blk s H scope (compEnvC scope cl C X.env) fp) ifs tt)
    (hk : ∀ (s : Shared) (H : Hp) (C : Addr) (cl : List (Str × Addr)) (fp : List Addr), PE (X.blk s H scope (compEnvC scope cl C X.env) fp) kx tk)
    (he : ∀ (s : Shared) (H : Hp) (C : Addr) (cl : List (Str × Addr)) (fp : List Addr), PE (X.blk s H scope (compEnvC scope cl C X.env) fp) vx tv) (hs : ∀ x, foldedSetIterable iter X.env x = pure x := by intro _; rfl) :
    PS X (.Assign [.Name y py] (.DictComp kx vx [⟨tg, iter, ifs, 0⟩] scope pos) spos) (tAsg (tDc wi g tt tk tv (own.map (·.2))) (gName i)) := by
  refine ⟨fun pins s σ H D I h => ?_⟩
  rw [exec_Assign_Name_used _ _ _ _ hsw]
  refine wpAny_bind (wpAny_standAt (wpAny_bind ?_))
  show wpAny _ X.A (do let _ ← comprehension (.DictComp kx vx [⟨tg, iter, ifs, 0⟩] scope pos) scope X.env (firstIterPos [⟨tg, iter, ifs, 0⟩] pos) newDict false (eval iter X.env) (some (assign (.Name y py) X.env))) _ _ s
  have h : tDc wi g tt tk tv (own.map (·.2)) σ H (fun x H1 => gName i x σ H1 D.nx) := h
  refine wpAny_bind (thn (dc_core (Qf := fun _ s' => SP X pins D .next s') hc hN I hi ok hg ht hk he hs h fun L C s' m H' I' q hn f => ?_) fun _ s' hq => wpAny_pure (wpAny_pure hq))
  show wpAny _ _ (assign (.Name y py) X.env (.ref L)) _ _ _
  refine wpAny_assign_Name (store_ok2 (v := V.ref L) I' hN hy (.inl hyl) rfl (fun s2 I2 ⟨a, sb, ha⟩ => ?_) (.inr hyl))
  obtain ⟨f0, f1, f2, f3, f4, f5⟩ := f
  have haC : C ≠ a := by
    rcases ha with z | z
    · rw [z]; exact f1
    · exact fun e => f4 y a z e.symm
  refine ⟨m, hn.sameBut sb haC, fun h3 sb3 => ?_⟩
  exact ⟨_, H', I2.turned (t' := s2.toks) (fun b o hb e => (sb3.2 b hb).trans e) f0 f1 f3 f4 f5, q⟩
theorem ps_setDcT {i : Nat} {y : Str} {py : Pos} {kx vx tg iter : Expr} {ifs : List Expr} {scope : Scope} {own : List (Str × Nat)} {pos spos : Pos} {wi : TI} {g : TG} {tt : TT} {tk tv : TE} (hu : X.A.units + 1 < cLine) (hc : X.calm = true) (hN : X.N.Nodup) (hy : X.N[i]? = some y) (hyl : X.env.scope.names.lookup y = some .local)
    (hsw : swapsWith (.DictComp kx vx [⟨tg, iter, ifs, 0⟩] scope pos) (some (.Name y py)) spos.line X.env = pure true) (hi : PI X tg iter wi) (ok : BlkOk X.N X.env.scope scope own)
    (hg : ∀ (s : Shared) (H : Hp) (C : Addr) (cl : List (Str × Addr)) (fp : List Addr), PG (X.blk s H scope (compEnvC scope cl C X.env) fp) tg g) (ht : ∀ (s : Shared) (H : Hp) (C : Addr) (cl : List (Str × Addr)) (fp : List Addr), PTs (X.blk s H scope (compEnvC scope cl C X.env) fp) ifs tt)
    (hk : ∀ (s : Shared) (H : Hp) (C : Addr) (cl : List (Str × Addr)) (fp : List Addr), PE (X.blk s H scope (compEnvC scope cl C X.env) fp) kx tk)
    (he : ∀ (s : Shared) (H : Hp) (C : Addr) (cl : List (Str × Addr)) (fp : List Addr), PE (X.blk s H scope (compEnvC scope cl C X.env) fp) vx tv) (hs : ∀ x, foldedSetIterable iter X.env x = pure x := by intro _; rfl) :
    PS X (.Assign [.Name y py] (.DictComp kx vx [⟨tg, iter, ifs, 0⟩] scope pos) spos) (tAsg (tDcG (.dT []) prT wi g tt tk tv (own.map (·.2))) (gName i)) := by
  refine ⟨fun pins s σ H D I h => ?_⟩
  rw [exec_Assign_Name_used _ _ _ _ hsw]
  refine wpAny_bind (wpAny_standAt (wpAny_bind ?_))
  show wpAny _ X.A (do let _ ← comprehension (.DictComp kx vx [⟨tg, iter, ifs, 0⟩] scope pos) scope X.env (firstIterPos [⟨tg, iter, ifs, 0⟩] pos) newDict false (eval iter X.env) (some (assign (.Name y py) X.env))) _ _ s
  have h : tDcG (.dT []) prT wi g tt tk tv (own.map (·.2)) σ H (fun x H1 => gName i x σ H1 D.nx) := h
  refine wpAny_bind (thn (dcG_core (Qf := fun _ s' => SP X pins D .next s') hc hN I hi ok hg ht hk he hs (.dT []) (fun H h hb => dt_empty h hb) prT (put_T hu) h fun L C s' m H' I' q hn f => ?_) fun _ s' hq => wpAny_pure (wpAny_pure hq))
  show wpAny _ _ (assign (.Name y py) X.env (.ref L)) _ _ _
  refine wpAny_assign_Name (store_ok2 (v := V.ref L) I' hN hy (.inl hyl) rfl (fun s2 I2 ⟨a, sb, ha⟩ => ?_) (.inr hyl))
  obtain ⟨f0, f1, f2, f3, f4, f5⟩ := f
  have haC : C ≠ a := by
    rcases ha with z | z
    · rw [z]; exact f1
    · exact fun e => f4 y a z e.symm
  refine ⟨m, hn.sameBut sb haC, fun h3 sb3 => ?_⟩
  exact ⟨_, H', I2.turned (t' := s2.toks) (fun b o hb e => (sb3.2 b hb).trans e) f0 f1 f3 f4 f5, q⟩
end
end BF
set_option Elab.async false
set_option linter.all false
set_option maxRecDepth 100000
set_option maxHeartbeats 4000000
namespace BF
open PySem PySem.Spec PyProof.Rows L2
abbrev txs (xs : List Str) : List V := xs.map V.str
theorem inV_txs (x : Str) : ∀ gs : List Str, inV (.str x) (txs gs) = mem gs x
  | [] => by simp [inV, mem]
  | g :: gs => by
    have ih := inV_txs x gs
    show (eqV (.str g) (.str x) || inV (.str x) (txs gs)) = _
    rw [ih]
    show ((g == x) || mem gs x) = _
    unfold mem
    by_cases e : g = x
    · subst e; simp
    · have : ¬ x = g := fun q => e q.symm
      simp [e, this]
theorem flat_txs : ∀ gs : List Str, (txs gs).all flatV = true
  | [] => rfl
  | g :: gs => by show (flatV (.str g) && (txs gs).all flatV) = true; rw [flat_txs gs]; rfl
theorem txs_at {xs : List Str} {i : Nat} {x : V} (h : (txs xs)[i]? = some x) : ∃ s, xs[i]? = some s ∧ x = .str s := by
  rw [List.getElem?_map] at h
  cases e : xs[i]? with
  | none => rw [e] at h; cases h
  | some s => rw [e] at h; exact ⟨s, rfl, (Option.some.inj h).symm⟩
theorem getD_at {β : Type} {xs : List β} {i : Nat} {x d : β} (h : xs[i]? = some x) : xs.getD i d = x := by
  rw [List.getD_eq_getElem?_getD, h]; rfl
abbrev e0 : Str := ⟨#[]⟩
section
variable {X : Cx}
theorem opNin (K : PySem.W.Frag) (h : X.K = K := by rfl) : OpR X (compareOp .NotIn) (rIn K true) := by subst h; exact op_notIn_seq
theorem opIn (K : PySem.W.Frag) (h : X.K = K := by rfl) : OpR X (compareOp .In) (rIn K false) := by subst h; exact op_in_seq
end
section
variable {K : PySem.W.Frag} {R : Hp → Hp → Prop} {H0 : Hp} {σ : L2.St} {j : Nat} {vs : List Nat} {tt : TT} {te : TE} {Q : VK}
/-- a comprehension whose items are plain values -/
theorem lcV {J : It} {xs : List V} {H1 : Hp} {D : Addr} {Qd : Hp → Prop} (F : Frm R H0) (S : Src J xs R H0) (f : Nat → Bool) (g : Nat → V) (hz : xs.length ≤ 1000000)
    (hw : ∀ x, wipe ((wipe σ vs).set j (some x)) vs = wipe σ vs) (hD : H0 D = none) (h1 : R H0 (upd H1 D (.lst [])))
    (ht : ∀ i x H1 (Qb : Bool → Hp → Prop), xs[i]? = some x → R H0 H1 → (∀ H2, R H1 H2 → Qb (f i) H2) → tt ((wipe σ vs).set j (some x)) H1 Qb)
    (he : ∀ i x H1 (Qv : VK), xs[i]? = some x → f i = true → R H0 H1 → (∀ H2, R H1 H2 → Qv (g i) H2) → te ((wipe σ vs).set j (some x)) H1 Qv)
    (hd : ∀ H, R H0 H → H D = some (.lst ((picks xs.length f).map g)) → Qd H) :
    ∃ W : Nat → Nat → Hp → Prop, (∃ m, W 0 m (upd H1 D (.lst []))) ∧ ∀ i m H, W i m H →
      (J.stop i H ∧ Qd H) ∨ (J.go i H ∧ ∃ Nx : Hp → Prop, (∀ H', Nx H' → ∃ m', m' < m ∧ W (i + 1) m' H') ∧ ∀ x H', J.yld i H x H' → gName j x (wipe σ vs) H' fun σ2 H2 => wipe σ2 vs = wipe σ vs ∧ tt σ2 H2 fun b H3 =>
        if b = true then te σ2 H3 fun y H4 => ∃ acc, H4 D = some (.lst acc) ∧ acc.length < sizeLine ∧ Nx (upd H4 D (.lst (acc ++ [y]))) else Nx H3) :=
  lcJ F S f (fun _ i v _ => v = g i) hz (fun _ _ _ _ _ h _ => h) (fun _ _ _ _ _ h _ => h) hw hD h1 ht (fun i x H1 Qv hx hf r k => he i x H1 Qv hx hf r fun H2 r2 => k _ H2 r2 rfl)
    (fun H us r hu p => hd H r (by rw [hu, Paired.fn p]))
end
/-! ### less, with_thing -/
def spLess (K : PySem.W.Frag) : Sp := fun vs H Q _ => ∃ (a b : Addr) (xs gs : List Str), vs = [.ref a, .ref b] ∧ SqT K H a (txs xs) ∧ SqT K H b (txs gs) ∧ xs.length ≤ 1000 ∧
  ∀ H' p, Same H H' → H p = none → H' p = some (.tup (txs (xs.filter fun x => !mem gs x))) → Q (.ref p) H'
theorem sc_less : FnScope ["lot", "gone", "thing"] ["lot", "gone"] (defScope s_less) := ⟨rfl, rfl, rfl, by decide +kernel, rfl, by decide +kernel, by decide +kernel⟩
section
variable {P : Program} {w : World} {K : PySem.W.Frag} {mg : Str → Option Value} {base : Heap}
theorem ok_less (T : TX K mg) : FOk P w K mg base 1 ("less", none) ["lot", "gone"] (spLess K) := by
  refine T.fn 5 (d := d_less) rfl rfl rfl sc_less (fun vs H Q E h => ?_) (fun _ _ _ _ _ _ us hl => match us, hl with | [_, _], _ => rfl) (fun cdv A outer s H vs Q E hr h => ?_)
  · obtain ⟨a, b, xs, gs, rfl, _⟩ := h
    rfl
  · obtain ⟨a, b, xs, gs, rfl, hx, hg, hl, k⟩ := h
    refine ⟨_, pss_one (ps_ret (pe_callTy call_tuple_of (by rfl) T.f_tuple (by decide +kernel) (pa_cons
      (pe_lc (own := [("thing", 2)]) (g := gName 2) rfl sc_less.nd (pi_tup (pv 0)) (blkOk_by (N := ["lot", "gone", "thing"]) (sc := defScope s_less) (by decide +kernel)) (fun _ _ _ _ _ => pg_name (i := 2) sc_less.nd rfl (Or.inl rfl))
        (fun _ _ _ _ _ => pts_one (pt_cmpR (opNin K) (pv 2) (pv 1) (by rfl))) (fun _ _ _ _ _ => pv 2)) pa_nil))), ?_⟩
    refine ⟨_, rfl, a, rfl, ⟨_, hx⟩, fun D hD => lcV (H0 := H) (same_frm H) (src_tup fun H' r => same_seqT r hx) (fun i => !mem gs (xs.getD i e0)) (fun i => .str (xs.getD i e0)) (by simp; omega) (fun x => rfl) hD (same_new hD) ?_ ?_ ?_⟩
    · intro i x H1 Qb hi r q
      obtain ⟨s, hs, rfl⟩ := txs_at hi
      refine ⟨_, rfl, _, rfl, b, _, rfl, .inr (same_seqT r hg), rfl, flat_txs _, _, rfl, ?_⟩
      rw [if_pos rfl, inV_txs, ← getD_at (d := e0) hs]
      exact q H1 (Same.refl _)
    · intro i x H1 Qv hi hf r q
      obtain ⟨s, hs, rfl⟩ := txs_at hi
      refine ⟨_, rfl, ?_⟩
      rw [← getD_at (d := e0) hs]
      exact q H1 (Same.refl _)
    · intro H1 r hD1
      refine ⟨D, _, rfl, .inl ⟨SqL.of hD1, fun l hl => ?_⟩⟩
      have e : (picks (txs xs).length fun i => !mem gs (xs.getD i e0)).map (fun i => V.str (xs.getD i e0)) = txs (xs.filter fun x => !mem gs x) := by
        rw [List.length_map]; exact picks_filter V.str e0 (fun x => !mem gs x) xs
      refine k _ l (same_put r (r.free hl)) (r.free hl) ?_
      rw [upd_same, e]
end
end BF
set_option Elab.async false
set_option linter.all false
set_option maxRecDepth 100000
set_option maxHeartbeats 4000000
/-! Families on the heap: each Family object, its names, its cache, its source; what a step of the heap leaves of them. -/
namespace BF
open PySem PySem.Spec PyProof.Rows L2
theorem ne_ns : ¬ (("names" : Str) = "source") := by decide +kernel
theorem ne_nc : ¬ (("names" : Str) = "counted") := by decide +kernel
theorem ne_sc : ¬ (("source" : Str) = "counted") := by decide +kernel
abbrev letters : Str := "abcdefghijklmnopqrstuvwxyz"
def good (s : Str) : Bool := decide (1 ≤ s.length) && decide (s.length ≤ 8) && s.cps.toList.all fun c => decide (c ∈ letters.cps.toList)
/-- what a family is -/
structure FInfo where
  nt : Addr
  src : Addr
  d : Addr
  E : List Str
  r : List Str → Nat
  dep : Nat
abbrev Gh := Addr → Option FInfo
def famF (nt s d : Addr) : List (Str × V) := [("names", .ref nt), ("source", .ref s), ("counted", .ref d)]
theorem famF_names (nt s d : Addr) : (famF nt s d).lookup ("names" : Str) = some (.ref nt) := by
  unfold famF; rw [List.lookup_cons]; simp
theorem famF_source (nt s d : Addr) : (famF nt s d).lookup ("source" : Str) = some (.ref s) := by
  unfold famF; rw [List.lookup_cons, List.lookup_cons]
  rw [show (("source" : Str) == "names") = false from by decide +kernel]; simp
theorem famF_counted (nt s d : Addr) : (famF nt s d).lookup ("counted" : Str) = some (.ref d) := by
  unfold famF; rw [List.lookup_cons, List.lookup_cons, List.lookup_cons]
  rw [show (("counted" : Str) == "names") = false from by decide +kernel, show (("counted" : Str) == "source") = false from by decide +kernel]; simp
theorem famF_no (nt s d : Addr) {m : Str} (h1 : (m == ("names" : Str)) = false) (h2 : (m == ("source" : Str)) = false) (h3 : (m == ("counted" : Str)) = false) : (famF nt s d).lookup m = none := by
  unfold famF; rw [List.lookup_cons, List.lookup_cons, List.lookup_cons, h1, h2, h3]; rfl
abbrev keyL (l : List Str) : List Key := l.map Sum.inr
theorem keyL_kV (l : List Str) : (keyL l).map kV = txs l := by rw [List.map_map]; rfl
theorem keyL_inj : ∀ {a b : List Str}, keyL a = keyL b → a = b
  | [], [], _ => rfl
  | [], _ :: _, e => by simp at e
  | _ :: _, [], e => by simp at e
  | x :: xs, y :: ys, e => by
    have e : (Sum.inr x : Key) :: keyL xs = Sum.inr y :: keyL ys := e
    injection e with e1 e2
    rw [Sum.inr.inj e1, keyL_inj e2]
/-- the cache: told lots and their ranks -/
structure CacheOk (i : FInfo) (kvs : List (List Key × V)) : Prop where
  nd : (kvs.map (·.1)).Nodup
  ok : ∀ p ∈ kvs, ∃ l : List Str, l.Sublist i.E ∧ p.1 = keyL l ∧ p.2 = .int (i.r l)
section
variable (K : PySem.W.Frag)
/-- ties: name, the address of the pair of ends, the two ends -/
abbrev Tie := Str × Addr × Str × Str
def webF (kt ed : Addr) : List (Str × V) := [("known", .ref kt), ("ending", .ref ed)]
def endsOf (es : List Tie) (t : Str) : Str × Str := match es.find? (fun e => decide (e.1 = t)) with
  | some e => e.2.2
  | none => (e0, e0)
structure WebAt (H : Hp) (s : Addr) (ps : List Str) (es : List Tie) : Prop where
  ob : ∃ dx kt ed, H s = some (.ins (He.ga K "Web") dx (webF kt ed)) ∧ H kt = some (.tup (txs ps)) ∧ H ed = some (.dK (es.map fun e => (.inr e.1, .ref e.2.1)))
  tie : ∀ e ∈ es, H e.2.1 = some (.tup [.str e.2.2.1, .str e.2.2.2]) ∧ e.2.2.1 ∈ ps ∧ e.2.2.2 ∈ ps
  nd : ps.Nodup
  ndE : (es.map (·.1)).Nodup
  few : ps.length ≤ 16
def listF (l : Addr) : List (Str × V) := [("lots", .ref l)]
def LotAt (H : Hp) (v : V) (l : List Str) : Prop := ∃ a, v = .ref a ∧ H a = some (.tup (txs l))
structure ListAt (H : Hp) (s : Addr) (Bs : List (List Str)) : Prop where
  ob : ∃ dx l vs, H s = some (.ins (He.ga K "Listed") dx (listF l)) ∧ H l = some (.lst vs) ∧ Paired (fun v B => LotAt H v B) vs Bs
  few : Bs.length ≤ 1000
  ne : Bs ≠ []
def shortF (a : Addr) (c : Nat) : List (Str × V) := [("inner", .ref a), ("cap", .int c)]
def joinF (a b : Addr) : List (Str × V) := [("first", .ref a), ("second", .ref b)]
def renF (a o : Addr) : List (Str × V) := [("inner", .ref a), ("olds", .ref o)]
/-- the source tells the ranks -/
inductive SrcOk (Γ : Gh) (H : Hp) (i : FInfo) : Prop
  | web (ps : List Str) (es : List Tie) (w : WebAt K H i.src ps es) (hE : ∀ x ∈ i.E, x ∈ es.map (·.1)) (hr : ∀ l : List Str, l.Sublist i.E → i.r l = rk (clW (endsOf es)) l) : SrcOk Γ H i
  | listed (Bs : List (List Str)) (w : ListAt K H i.src Bs) (hr : ∀ l : List Str, l.Sublist i.E → (∃ B ∈ Bs, (l.filter (mem B)).length = i.r l) ∧ ∀ B ∈ Bs, (l.filter (mem B)).length ≤ i.r l) : SrcOk Γ H i
  | free (dx : Addr) (w : H i.src = some (.ins (He.ga K "AllFree") dx [])) (hr : ∀ l : List Str, l.Sublist i.E → i.r l = l.length) : SrcOk Γ H i
  | short (dx a : Addr) (c : Nat) (j : FInfo) (w : H i.src = some (.ins (He.ga K "Short") dx (shortF a c))) (g : Γ a = some j) (hd : j.dep < i.dep) (hE : j.E = i.E) (hr : ∀ l : List Str, l.Sublist i.E → i.r l = min c (j.r l)) : SrcOk Γ H i
  | joined (dx a b : Addr) (j k : FInfo) (w : H i.src = some (.ins (He.ga K "Joined") dx (joinF a b))) (g : Γ a = some j) (g' : Γ b = some k) (hd : j.dep < i.dep) (hd' : k.dep < i.dep) (hs : Side i.E j.E k.E) (hr : ∀ l : List Str, l.Sublist i.E → i.r l = rSum j.E k.E j.r k.r l) : SrcOk Γ H i
  | renamed (dx a o : Addr) (j : FInfo) (f : Str → Str) (w : H i.src = some (.ins (He.ga K "Renamed") dx (renF a o))) (g : Γ a = some j) (hd : j.dep < i.dep)
      (ho : H o = some (.dK (j.E.map fun x => (.inr (f x), .str x)))) (hE : i.E.Perm (j.E.map f)) (inj : ∀ x ∈ j.E, ∀ y ∈ j.E, f x = f y → x = y) (hr : ∀ l : List Str, l.Sublist i.E → i.r l = rRen j.E j.r f l) : SrcOk Γ H i
structure FamOk (Γ : Gh) (H : Hp) (a : Addr) (i : FInfo) : Prop where
  ob : ∃ dx, H a = some (.ins (He.ga K "Family") dx (famF i.nt i.src i.d))
  nm : H i.nt = some (.tup (txs i.E))
  ca : ∃ kvs, H i.d = some (.dT kvs) ∧ CacheOk i kvs
  sr : SrcOk K Γ H i
  mat : Mat i.E i.r
  srt : sortedS i.E = true
  few : i.E.length ≤ 14
  gd : ∀ x ∈ i.E, good x = true
structure Good (Γ : Gh) (H : Hp) : Prop where
  fam : ∀ a i, Γ a = some i → FamOk K Γ H a i
  inj : ∀ a b i j, Γ a = some i → Γ b = some j → i.d = j.d → a = b
end
/-- all that was tracked stands, but the caches -/
def Stp (Γ : Gh) (H H' : Hp) : Prop := ∀ b o, H b = some o → H' b = some o ∨ ((∃ kvs, o = .dT kvs) ∧ ∃ a i, Γ a = some i ∧ i.d = b)
def Caches (Γ : Gh) (H : Hp) : Prop := ∀ a i, Γ a = some i → ∃ kvs, H i.d = some (.dT kvs) ∧ CacheOk i kvs
/-- a step of the heap, the families in sight -/
structure Rg (Γ : Gh) (H H' : Hp) : Prop where
  st : Stp Γ H H'
  ca : Caches Γ H'
section
variable {K : PySem.W.Frag} {Γ : Gh} {H H' H1 H2 : Hp} {a : Addr} {i : FInfo}
theorem Good.caches (G : Good K Γ H) : Caches Γ H := fun a i h => (G.fam a i h).ca
theorem Stp.refl (Γ : Gh) (H : Hp) : Stp Γ H H := fun _ _ h => .inl h
theorem Stp.trans (a : Stp Γ H H1) (b : Stp Γ H1 H2) : Stp Γ H H2 := fun c o h => by
  rcases a c o h with h | h
  · exact b c o h
  · exact .inr h
theorem Stp.of_same (s : Same H H1) : Stp Γ H H1 := fun b o h => .inl (s b o h)
theorem Stp.keep (s : Stp Γ H H') {b : Addr} {o : HO} (h : H b = some o) (n : ∀ kvs, o ≠ .dT kvs) : H' b = some o := by
  rcases s b o h with h | ⟨⟨kvs, e⟩, _⟩
  · exact h
  · exact absurd e (n kvs)
theorem Stp.lst (s : Stp Γ H H') {b : Addr} {xs : List V} (h : H b = some (.lst xs)) : H' b = some (.lst xs) := s.keep h fun _ e => nomatch e
theorem Stp.tup (s : Stp Γ H H') {b : Addr} {xs : List V} (h : H b = some (.tup xs)) : H' b = some (.tup xs) := s.keep h fun _ e => nomatch e
theorem Stp.ins (s : Stp Γ H H') {b C dx : Addr} {fs : List (Str × V)} (h : H b = some (.ins C dx fs)) : H' b = some (.ins C dx fs) := s.keep h fun _ e => nomatch e
theorem Stp.dK (s : Stp Γ H H') {b : Addr} {kvs : List (Key × V)} (h : H b = some (.dK kvs)) : H' b = some (.dK kvs) := s.keep h fun _ e => nomatch e
theorem Stp.frz (s : Stp Γ H H') {b : Addr} {o : Obj} {u : HO} (h : H b = some (.frz o u)) : H' b = some (.frz o u) := s.keep h fun _ e => nomatch e
theorem Stp.free (s : Stp Γ H H') (c : Caches Γ H') {p : Addr} (h : H' p = none) : H p = none := by
  cases e : H p with
  | none => rfl
  | some o =>
    rcases s p o e with q | ⟨_, a, i, g, rfl⟩
    · rw [h] at q; cases q
    · obtain ⟨kvs, q, _⟩ := c a i g
      rw [h] at q; cases q
theorem Rg.free (s : Rg Γ H H') {p : Addr} (h : H' p = none) : H p = none := s.st.free s.ca h
theorem Stp.sqL {xs : List V} (s : Stp Γ H H') (h : SqL K H a xs) : SqL K H' a xs := by
  rcases h with (h | ⟨o, h⟩) | h
  · exact .inl (.inl (s.lst h))
  · exact .inl (.inr ⟨o, s.frz h⟩)
  · exact .inr h
theorem Stp.sqT {xs : List V} (s : Stp Γ H H') (h : SqT K H a xs) : SqT K H' a xs := by
  rcases h with (h | ⟨o, h⟩) | h
  · exact .inl (.inl (s.tup h))
  · exact .inl (.inr ⟨o, s.frz h⟩)
  · exact .inr h
theorem Rg.refl (c : Caches Γ H) : Rg Γ H H := ⟨.refl Γ H, c⟩
theorem Rg.trans (a : Rg Γ H H1) (b : Rg Γ H1 H2) : Rg Γ H H2 := ⟨a.st.trans b.st, b.ca⟩
theorem Caches.same (c : Caches Γ H) (s : Same H H1) : Caches Γ H1 := fun a i g => by
  obtain ⟨kvs, h, k⟩ := c a i g
  exact ⟨kvs, s _ _ h, k⟩
theorem Rg.of_same (c : Caches Γ H) (s : Same H H1) : Rg Γ H H1 := ⟨.of_same s, c.same s⟩
theorem Rg.same (r : Rg Γ H H1) (s : Same H1 H2) : Rg Γ H H2 := r.trans (.of_same r.ca s)
theorem Stp.put (s : Stp Γ H H1) {p : Addr} {o : HO} (h : H p = none) : Stp Γ H (upd H1 p o) := fun b u e => by
  rcases s b u e with q | q
  · exact .inl (by rw [upd_ne (ne_of_none e h)]; exact q)
  · exact .inr q
theorem Caches.put (c0 : Caches Γ H) (c : Caches Γ H1) {p : Addr} {o : HO} (h : H p = none) : Caches Γ (upd H1 p o) := fun a i g => by
  obtain ⟨_, h0, _⟩ := c0 a i g
  obtain ⟨kvs, h1, k⟩ := c a i g
  exact ⟨kvs, by rw [upd_ne (ne_of_none h0 h)]; exact h1, k⟩
theorem Rg.put (c0 : Caches Γ H) (s : Rg Γ H H1) {p : Addr} {o : HO} (h : H p = none) : Rg Γ H (upd H1 p o) := ⟨s.st.put h, c0.put s.ca h⟩
theorem rg_frm (c0 : Caches Γ H) : Frm (Rg Γ) H := ⟨.refl c0, fun a b => a.trans b, fun a h => a.put c0 h, fun _ b _ h => b.st.lst h⟩
theorem LotAt.stp (s : Stp Γ H H') {v : V} {l : List Str} (h : LotAt H v l) : LotAt H' v l := let ⟨a, e, h⟩ := h; ⟨a, e, s.tup h⟩
theorem SrcOk.stp {Γ0 : Gh} (s : Stp Γ0 H H') (h : SrcOk K Γ H i) : SrcOk K Γ H' i := by
  cases h with
  | web ps es w hE hr =>
    obtain ⟨⟨dx, kt, ed, h1, h2, h3⟩, h4, h5, h6, h7⟩ := w
    exact .web ps es ⟨⟨dx, kt, ed, s.ins h1, s.tup h2, s.dK h3⟩, fun e he => ⟨s.tup (h4 e he).1, (h4 e he).2⟩, h5, h6, h7⟩ hE hr
  | listed Bs w hr =>
    obtain ⟨⟨dx, l, vs, h1, h2, h3⟩, h4, h5⟩ := w
    exact .listed Bs ⟨⟨dx, l, vs, s.ins h1, s.lst h2, Paired.imp (fun _ _ q => q.stp s) h3⟩, h4, h5⟩ hr
  | free dx w hr => exact .free dx (s.ins w) hr
  | short dx a c j w g hd hE hr => exact .short dx a c j (s.ins w) g hd hE hr
  | joined dx a b j k w g g' hd hd' hs hr => exact .joined dx a b j k (s.ins w) g g' hd hd' hs hr
  | renamed dx a o j f w g hd ho hE inj hr => exact .renamed dx a o j f (s.ins w) g hd (s.dK ho) hE inj hr
theorem SrcOk.gh {Γ' : Gh} (s : ∀ a i, Γ a = some i → Γ' a = some i) (h : SrcOk K Γ H i) : SrcOk K Γ' H i := by
  cases h with
  | web ps es w hE hr => exact .web ps es w hE hr
  | listed Bs w hr => exact .listed Bs w hr
  | free dx w hr => exact .free dx w hr
  | short dx a c j w g hd hE hr => exact .short dx a c j w (s _ _ g) hd hE hr
  | joined dx a b j k w g g' hd hd' hs hr => exact .joined dx a b j k w (s _ _ g) (s _ _ g') hd hd' hs hr
  | renamed dx a o j f w g hd ho hE inj hr => exact .renamed dx a o j f w (s _ _ g) hd ho hE inj hr
/-- behind a step the families stand -/
theorem Good.step (G : Good K Γ H) (s : Rg Γ H H') : Good K Γ H' :=
  ⟨fun a i g => let ⟨⟨dx, h1⟩, h2, _, h4, h5, h6, h7, h8⟩ := G.fam a i g; ⟨⟨dx, s.st.ins h1⟩, s.st.tup h2, s.ca a i g, h4.stp s.st, h5, h6, h7, h8⟩, G.inj⟩
/-- one more entry in a cache -/
theorem Good.store (G : Good K Γ H) (g : Γ a = some i) {kvs : List (List Key × V)} (c : CacheOk i kvs) : Rg Γ H (upd H i.d (.dT kvs)) := by
  obtain ⟨k0, h0, _⟩ := (G.fam a i g).ca
  constructor
  · intro b o e
    by_cases q : b = i.d
    · subst q
      rw [h0] at e
      cases e
      exact .inr ⟨⟨_, rfl⟩, a, i, g, rfl⟩
    · exact .inl (by rw [upd_ne q]; exact e)
  · intro b j g'
    by_cases q : j.d = i.d
    · have := G.inj b a j i g' g q
      subst this
      rw [g] at g'
      cases g'
      exact ⟨kvs, upd_same, c⟩
    · obtain ⟨k1, h1, c1⟩ := (G.fam b j g').ca
      exact ⟨k1, by rw [upd_ne q]; exact h1, c1⟩
/-- a family more -/
def more (Γ : Gh) (p : Addr) (i : FInfo) : Gh := fun b => if b = p then some i else Γ b
structure NewFam (K : PySem.W.Frag) (Γ : Gh) (H H' : Hp) (p : Addr) (i : FInfo) : Prop where
  st : Same H H'
  np : H p = none
  nd : H i.d = none
  ok : FamOk K Γ H' p i
theorem more_le {p : Addr} {i : FInfo} (n : Γ p = none) : ∀ a j, Γ a = some j → more Γ p i a = some j := fun a j h => by
  unfold more
  rw [if_neg (fun e => by rw [e, n] at h; cases h)]
  exact h
theorem FamOk.gh {Γ' : Gh} (s : ∀ a i, Γ a = some i → Γ' a = some i) (h : FamOk K Γ H a i) : FamOk K Γ' H a i := ⟨h.ob, h.nm, h.ca, h.sr.gh s, h.mat, h.srt, h.few, h.gd⟩
theorem Good.none_of (G : Good K Γ H) {p : Addr} (h : H p = none) : Γ p = none := by
  cases e : Γ p with
  | none => rfl
  | some i =>
    obtain ⟨dx, q⟩ := (G.fam p i e).ob
    rw [h] at q; cases q
theorem Good.more (G : Good K Γ H) {p : Addr} (n : NewFam K Γ H H' p i) : Good K (BF.more Γ p i) H' := by
  have np := G.none_of n.np
  have le := more_le (i := i) np
  have G' := G.step (.of_same G.caches n.st)
  constructor
  · intro a j h
    by_cases e : a = p
    · subst e
      unfold BF.more at h
      rw [if_pos rfl] at h
      cases h
      exact n.ok.gh le
    · unfold BF.more at h
      rw [if_neg e] at h
      exact (G'.fam a j h).gh le
  · intro a b j k h1 h2 e
    have key : ∀ a j, BF.more Γ p i a = some j → a ≠ p → j.d ≠ i.d := fun a j h ha q => by
      unfold BF.more at h
      rw [if_neg ha] at h
      obtain ⟨kvs, q2, _⟩ := (G.fam a j h).ca
      rw [q, n.nd] at q2; cases q2
    have at_p : ∀ j, BF.more Γ p i p = some j → j = i := fun j h => by
      unfold BF.more at h
      rw [if_pos rfl] at h
      exact (Option.some.inj h).symm
    by_cases ha : a = p
    · by_cases hb : b = p
      · rw [ha, hb]
      · subst ha
        rw [at_p j h1] at e
        exact absurd e.symm (key b k h2 hb)
    · by_cases hb : b = p
      · subst hb
        rw [at_p k h2] at e
        exact absurd e (key a j h1 ha)
      · unfold BF.more at h1 h2
        rw [if_neg ha] at h1
        rw [if_neg hb] at h2
        exact G.inj a b j k h1 h2 e
end
/-! ### sorted lots -/
theorem len_two {α} (p : α → Bool) : ∀ ls : List α, ls.length = (ls.filter p).length + (ls.filter fun a => !p a).length
  | [] => rfl
  | a :: ls => by
    have ih := len_two p ls
    cases h : p a with
    | true => rw [List.filter_cons_of_pos h, List.filter_cons_of_neg (by rw [h]; decide), List.length_cons, List.length_cons]; omega
    | false => rw [List.filter_cons_of_neg (by rw [h]; decide), List.filter_cons_of_pos (by rw [h]; rfl), List.length_cons, List.length_cons]; omega
theorem nd_map {α β} (f : α → β) : ∀ ls : List α, ls.Nodup → (∀ a ∈ ls, ∀ b ∈ ls, f a = f b → a = b) → (ls.map f).Nodup
  | [], _, _ => List.nodup_nil
  | a :: ls, nd, h => by
    rw [List.map_cons, List.nodup_cons]
    refine ⟨fun q => ?_, nd_map f ls (List.nodup_cons.mp nd).2 fun c hc d hd => h c (List.mem_cons_of_mem _ hc) d (List.mem_cons_of_mem _ hd)⟩
    obtain ⟨b, hb, e⟩ := List.mem_map.mp q
    have := h b (List.mem_cons_of_mem _ hb) a List.mem_cons_self e
    subst this
    exact (List.nodup_cons.mp nd).1 hb
theorem nd_of {α β} (f : α → β) : ∀ ls : List α, (ls.map f).Nodup → ls.Nodup
  | [], _ => List.nodup_nil
  | a :: ls, h => by
    rw [List.map_cons, List.nodup_cons] at h
    exact List.nodup_cons.mpr ⟨fun q => h.1 (List.mem_map_of_mem q), nd_of f ls h.2⟩
theorem subs_count (E : List Str) : ∀ (ls : List (List Str)), ls.Nodup → (∀ l ∈ ls, l.Sublist E) → ls.length ≤ 2 ^ E.length := by
  induction E with
  | nil =>
    intro ls nd h
    match ls, nd, h with
    | [], _, _ => simp
    | [_], _, _ => simp
    | a :: b :: r, nd, h =>
      have e1 := List.sublist_nil.mp (h a (by simp))
      have e2 := List.sublist_nil.mp (h b (by simp))
      subst e1; subst e2
      simp at nd
  | cons x E ih =>
    intro ls nd h
    -- those that begin with x, and the others
    have split := len_two (fun l : List Str => decide (l.head? = some x ∧ ¬ l.Sublist E)) ls
    have h2 : (ls.filter fun l => !decide (l.head? = some x ∧ ¬ l.Sublist E)).length ≤ 2 ^ E.length := by
      refine ih _ (nd.filter _) fun l hl => ?_
      obtain ⟨a, b⟩ := List.mem_filter.mp hl
      have b : ¬ (l.head? = some x ∧ ¬ l.Sublist E) := of_decide_eq_false ((Bool.not_eq_true' _).mp b)
      apply Classical.byContradiction
      intro n
      refine b ⟨?_, n⟩
      cases h l a with
      | cons _ s => exact absurd s n
      | cons_cons _ s => rfl
    have h1 : ((ls.filter fun l => decide (l.head? = some x ∧ ¬ l.Sublist E)).map List.tail).length ≤ 2 ^ E.length := by
      refine ih _ ?_ fun l hl => ?_
      · refine nd_map _ _ (nd.filter _) ?_
        intro a ha b hb e
        obtain ⟨a1, a2⟩ := List.mem_filter.mp ha
        obtain ⟨b1, b2⟩ := List.mem_filter.mp hb
        have a2 : a.head? = some x ∧ ¬ a.Sublist E := of_decide_eq_true a2
        have b2 : b.head? = some x ∧ ¬ b.Sublist E := of_decide_eq_true b2
        obtain ⟨a', rfl⟩ := List.head?_eq_some_iff.mp a2.1
        obtain ⟨b', rfl⟩ := List.head?_eq_some_iff.mp b2.1
        have e : a' = b' := e
        rw [e]
      · obtain ⟨m, hm, rfl⟩ := List.mem_map.mp hl
        obtain ⟨a, b⟩ := List.mem_filter.mp hm
        have b : m.head? = some x ∧ ¬ m.Sublist E := of_decide_eq_true b
        obtain ⟨m', rfl⟩ := List.head?_eq_some_iff.mp b.1
        cases h _ a with
        | cons _ s => exact absurd s b.2
        | cons_cons _ s => exact s
    rw [List.length_map] at h1
    rw [List.length_cons, Nat.pow_succ]
    omega
theorem cache_few {i : FInfo} {kvs : List (List Key × V)} (c : CacheOk i kvs) (h : i.E.length ≤ 14) : kvs.length ≤ 16384 := by
  have go : ∀ kvs : List (List Key × V), (kvs.map (·.1)).Nodup → (∀ p ∈ kvs, ∃ l : List Str, l.Sublist i.E ∧ p.1 = keyL l ∧ p.2 = .int (i.r l)) → ∃ ls : List (List Str), ls.length = kvs.length ∧ ls.map keyL = kvs.map (·.1) ∧ ∀ l ∈ ls, l.Sublist i.E := by
    intro kvs
    induction kvs with
    | nil => intro _ _; exact ⟨[], rfl, rfl, fun l hl => by simp at hl⟩
    | cons p kvs ih =>
      intro nd ok
      obtain ⟨ls, e1, e2, e3⟩ := ih (List.nodup_cons.mp nd).2 fun q hq => ok q (List.mem_cons_of_mem _ hq)
      obtain ⟨l, s, e, _⟩ := ok p List.mem_cons_self
      refine ⟨l :: ls, by rw [List.length_cons, List.length_cons, e1], by rw [List.map_cons, List.map_cons, e2, e], fun m hm => ?_⟩
      rcases List.mem_cons.mp hm with rfl | hm
      · exact s
      · exact e3 m hm
  obtain ⟨ls, e1, e2, e3⟩ := go kvs c.nd c.ok
  have nd : ls.Nodup := by
    have := c.nd
    rw [← e2] at this
    exact nd_of _ _ this
  have := subs_count i.E ls nd e3
  have p : 2 ^ i.E.length ≤ 2 ^ 14 := Nat.pow_le_pow_right (by omega) h
  have q : (2 : Nat) ^ 14 = 16384 := by decide
  omega
end BF
set_option Elab.async false
set_option linter.all false
set_option maxRecDepth 100000
set_option maxHeartbeats 4000000
/-! is_integer, is_name, need_number, need_lots, with_thing, changes. -/
namespace BF
open PySem PySem.Spec PyProof.Rows L2
theorem src_text {R : Hp → Hp → Prop} {H0 : Hp} {x : Str} : Src (Its x) (x.cps.toList.map fun c => V.str ⟨#[c]⟩) R H0 :=
  ⟨fun i H hi _ => by show i < x.cps.size; simpa using hi, fun H _ => by show x.cps.size ≤ _; simp, fun i H v H' hi _ y => by
    obtain ⟨rfl, c, hc, rfl⟩ := y
    refine ⟨rfl, ?_⟩
    rw [List.getElem?_map, Array.getElem?_toList, hc]; rfl⟩
def spIsInt : Sp := fun vs H Q _ => ∃ n : Int, vs = [.int n] ∧ Q (.bl true) H
theorem sc_is_integer : FnScope ["thing"] ["thing"] (defScope s_is_integer) := ⟨rfl, rfl, rfl, by decide +kernel, rfl, by decide +kernel, by decide +kernel⟩
def spIsName : Sp := fun vs H Q _ => ∃ s : Str, vs = [.str s] ∧ good s = true ∧ ∀ H', Same H H' → Q (.bl true) H'
theorem sc_is_name : FnScope ["thing", "letter"] ["thing"] (defScope s_is_name) := ⟨rfl, rfl, rfl, by decide +kernel, rfl, by decide +kernel, by decide +kernel⟩
def spNeedNum : Sp := fun vs H Q _ => ∃ n : Int, vs = [.int n] ∧ 0 ≤ n ∧ Q .non H
theorem sc_need_number : FnScope ["number"] ["number"] (defScope s_need_number) := ⟨rfl, rfl, rfl, by decide +kernel, rfl, by decide +kernel, by decide +kernel⟩
def spNeedLots : Sp := fun vs H Q _ => ∃ n : Int, vs = [.int n] ∧ 0 ≤ n ∧ n ≤ 24 ∧ Q .non H
theorem sc_need_lots : FnScope ["k"] ["k"] (defScope s_need_lots) := ⟨rfl, rfl, rfl, by decide +kernel, rfl, by decide +kernel, by decide +kernel⟩
/-- a sorted tuple of xs and x -/
def spWith (K : PySem.W.Frag) : Sp := fun vs H Q _ => ∃ (a : Addr) (xs : List Str) (x : Str), vs = [.ref a, .str x] ∧ SqT K H a (txs xs) ∧ xs.length < 60 ∧
  ∀ ys H' p, Same H H' → H p = none → ys.Perm (x :: xs) → sortedS ys = true → H' p = some (.tup (txs ys)) → Q (.ref p) H'
theorem sc_with_thing : FnScope ["lot", "thing"] ["lot", "thing"] (defScope s_with_thing) := ⟨rfl, rfl, rfl, by decide +kernel, rfl, by decide +kernel, by decide +kernel⟩
def spChanges (K : PySem.W.Frag) : Sp := fun vs H Q _ => ∃ (a : Addr) (xs : List Str) (x y : Str), vs = [.ref a, .str x, .str y] ∧ SqT K H a (txs xs) ∧ xs.length < 60 ∧
  ∀ ys H' p, Same H H' → H p = none → ys.Perm (y :: xs.filter fun z => !mem [x] z) → sortedS ys = true → H' p = some (.tup (txs ys)) → Q (.ref p) H'
theorem sc_changes : FnScope ["lot", "gone", "thing"] ["lot", "gone", "thing"] (defScope s_changes) := ⟨rfl, rfl, rfl, by decide +kernel, rfl, by decide +kernel, by decide +kernel⟩
theorem ifT {b : Bool} {A B : Prop} (e : b = true) (h : A) : if b = true then A else B := by rw [if_pos e]; exact h
theorem ifF {b : Bool} {A B : Prop} (e : b = false) (h : B) : if b = true then A else B := by rw [if_neg (by rw [e]; decide)]; exact h
theorem txs_app (xs ys : List Str) : txs xs ++ txs ys = txs (xs ++ ys) := (List.map_append (f := V.str)).symm
theorem txs_snoc (xs : List Str) (x : Str) : txs xs ++ [.str x] = txs (xs ++ [x]) := txs_app xs [x]
theorem len1 {x : V} : [x].length ≤ sizeLine := by rw [sizeLine_eq]; simp
theorem perm_end (xs : List Str) (x : Str) : (xs ++ [x]).Perm (x :: xs) := List.perm_append_comm
section
variable {P : Program} {w : World} {K : PySem.W.Frag} {mg : Str → Option Value} {base : Heap}
theorem ok_is_integer (T : TX K mg) : FOk P w K mg base 1 ("is_integer", none) ["thing"] spIsInt := by
  refine T.fn 0 (d := d_is_integer) rfl rfl rfl sc_is_integer (fun vs H Q E h => ?_) (fun _ _ _ _ _ _ us hl => match us, hl with | [_], _ => rfl) (fun cdv A outer s H vs Q E hr h => ?_)
  · obtain ⟨n, rfl, _⟩ := h; rfl
  · obtain ⟨n, rfl, k⟩ := h
    refine ⟨_, pss_one (ps_ret (pe_and (pe_callB call_isi (by rfl) T.f_isinstance (by decide +kernel) (pa_cons (pv 0) (pa_cons (pe_bltn (v := .ty "int") (by rfl) T.f_int (by decide +kernel) rfl) pa_nil)))
      (pe_one (pe_not (pe_callB call_isi (by rfl) T.f_isinstance (by decide +kernel) (pa_cons (pv 0) (pa_cons (pe_bltn (v := .ty "bool") (by rfl) T.f_bool (by decide +kernel) rfl) pa_nil))))))), ?_⟩
    exact ⟨_, rfl, _, _, _, _, _, rfl, .ty "int", .base (.int n), kit_ty (r := true) (by decide +kernel), true, rfl, iteT ⟨_, rfl, _, _, _, _, _, rfl, .ty "bool", .base (.int n), kit_ty (r := false) (by decide +kernel), _, rfl, k⟩⟩
theorem ok_is_name (T : TX K mg) : FOk P w K mg base 1 ("is_name", none) ["thing"] spIsName := by
  refine T.fn 1 (d := d_is_name) rfl rfl rfl sc_is_name (fun vs H Q E h => ?_) (fun _ _ _ _ _ _ us hl => match us, hl with | [_], _ => rfl) (fun cdv A outer s H vs Q E hr h => ?_)
  · obtain ⟨n, rfl, _⟩ := h; rfl
  · obtain ⟨x, rfl, hx, k⟩ := h
    obtain ⟨t1, hL⟩ := T.c_LETTERS
    obtain ⟨t2, hM⟩ := T.c_MOST_LETTERS
    unfold good at hx
    rw [Bool.and_eq_true, Bool.and_eq_true] at hx
    obtain ⟨⟨h1, h2⟩, h3⟩ := hx
    have h1 := of_decide_eq_true h1
    have h2 := of_decide_eq_true h2
    refine ⟨_, pss_cons (ps_if (pw_or (pt_not (pt_val (pe_callB call_isi (by rfl) T.f_isinstance (by decide +kernel) (pa_cons (pv 0) (pa_cons (pe_bltn (v := .ty "str") (by rfl) T.f_str (by decide +kernel) rfl) pa_nil)))))
        (pw_or1 (pt_not (pt_chain op_le op_le pe_int (pe_callB call_len_str (by rfl) T.f_len (by decide +kernel) (pa_cons (pv 0) pa_nil)) (pe_glob (v := .int 8) (by rfl) hM ⟨_, rfl⟩))))).pt (pss_one (ps_ret pe_bl)) pss_nil)
      (pss_one (ps_ret (pe_callB (cr_all rfl) (by rfl) T.f_all (by decide +kernel) (pa_cons
        (pe_lc (own := [("letter", 1)]) (g := gName 1) rfl sc_is_name.nd (pi_str (pv 0)) (blkOk_by (N := ["thing", "letter"]) (sc := defScope s_is_name) (by decide +kernel)) (fun _ _ _ _ _ => pg_name (i := 1) sc_is_name.nd rfl (Or.inl rfl))
          (fun _ _ _ _ _ => pts_nil) (fun _ _ _ _ _ => pe_cmpR op_in_sign (pv 1) (pe_glob (v := .str letters) (by rfl) hL ⟨_, rfl⟩) (by rfl))) pa_nil)))), ?_⟩
    refine ⟨_, rfl, _, _, _, _, _, rfl, .ty "str", .base (.str x), kit_ty (r := true) (by decide +kernel), true, rfl, ?_⟩
    refine iteF ?_
    refine ⟨_, rfl, x, rfl, by rw [sizeLine_eq]; omega, 1, _, rfl, rfl, _, rfl, ?_⟩
    refine ifT (decide_eq_true (by omega)) ⟨_, _, rfl, rfl, _, rfl, ?_⟩
    refine ifF (by rw [decide_eq_true (by omega)]; rfl) ⟨_, rfl, x, rfl, fun D hD => ?_⟩
    refine lcV (H0 := H) (same_frm H) src_text (fun _ => true) (fun i => .bl (decide (x.cps.toList.getD i 0 ∈ letters.cps.toList))) (by simp; show x.length ≤ _; omega) (fun x => rfl) hD (same_new hD) ?_ ?_ ?_
    · intro i v H1 Qb hi r q
      exact q H1 (Same.refl _)
    · intro i v H1 Qv hi _ r q
      rw [List.getElem?_map] at hi
      cases ec : x.cps.toList[i]? with
      | none => rw [ec] at hi; cases hi
      | some c =>
        rw [ec] at hi
        refine ⟨_, rfl, c, _, (Option.some.inj hi).symm, rfl, ?_⟩
        rw [← getD_at (d := 0) ec]
        exact q H1 (Same.refl _)
    · intro H1 r hD1
      refine ⟨D, x.cps.toList.map fun c => decide (c ∈ letters.cps.toList), rfl, SqL.of ?_, ?_⟩
      · rw [hD1, List.length_map, picks_all, List.map_map]
        exact congrArg (fun z => some (HO.lst z)) (map_range' (fun c => V.bl (decide (c ∈ letters.cps.toList))) 0 x.cps.toList)
      · rw [List.all_map]
        have e : (x.cps.toList.all ((id : Bool → Bool) ∘ fun c => decide (c ∈ letters.cps.toList))) = true := h3
        rw [e]
        exact k H1 r
theorem ok_need_number (T : TX K mg) : FOk P w K mg base 2 ("need_number", none) ["number"] spNeedNum := by
  refine T.fn 3 (d := d_need_number) rfl rfl rfl sc_need_number (fun vs H Q E h => ?_) (fun _ _ _ _ _ _ us hl => match us, hl with | [_], _ => rfl) (fun cdv A outer s H vs Q E hr h => ?_)
  · obtain ⟨n, rfl, _⟩ := h; rfl
  · obtain ⟨n, rfl, h0, k⟩ := h
    refine ⟨_, pss_one (ps_if (pw_or (pt_not (pt_val (pe_cl (ok_is_integer T) hr T.g_is_integer (pa_cons (pv 0) pa_nil)))) (pw_or1 (pt_cmp (pc_lt (pv 0) pe_int)))).pt pss_never pss_nil), ?_⟩
    refine ⟨_, rfl, _, rfl, _, rfl, iteF ⟨_, rfl, _, _, rfl, rfl, _, rfl, ?_⟩⟩
    exact ifF (decide_eq_false (by omega)) k
theorem ok_need_lots (T : TX K mg) : FOk P w K mg base 2 ("need_lots", none) ["k"] spNeedLots := by
  refine T.fn 26 (d := d_need_lots) rfl rfl rfl sc_need_lots (fun vs H Q E h => ?_) (fun _ _ _ _ _ _ us hl => match us, hl with | [_], _ => rfl) (fun cdv A outer s H vs Q E hr h => ?_)
  · obtain ⟨n, rfl, _⟩ := h; rfl
  · obtain ⟨n, rfl, h0, h1, k⟩ := h
    obtain ⟨t2, hM⟩ := T.c_MOST_LOTS
    refine ⟨_, pss_one (ps_if (pw_or (pt_not (pt_val (pe_cl (ok_is_integer T) hr T.g_is_integer (pa_cons (pv 0) pa_nil)))) (pw_or1 (pt_not (pt_chain op_le op_le pe_int (pv 0) (pe_glob (v := .int 24) (by rfl) hM ⟨_, rfl⟩))))).pt pss_never pss_nil), ?_⟩
    refine ⟨_, rfl, _, rfl, _, rfl, iteF ⟨_, rfl, _, _, rfl, rfl, _, rfl, ?_⟩⟩
    refine ifT (decide_eq_true (by omega)) ⟨_, _, rfl, rfl, _, rfl, ?_⟩
    exact ifF (by rw [decide_eq_true (by omega)]; rfl) k
theorem ok_with_thing (T : TX K mg) : FOk P w K mg base 1 ("with_thing", none) ["lot", "thing"] (spWith K) := by
  refine T.fn 6 (d := d_with_thing) rfl rfl rfl sc_with_thing (fun vs H Q E h => ?_) (fun _ _ _ _ _ _ us hl => match us, hl with | [_, _], _ => rfl) (fun cdv A outer s H vs Q E hr h => ?_)
  · obtain ⟨a, xs, x, rfl, _⟩ := h; rfl
  · obtain ⟨a, xs, x, rfl, hx, hl, k⟩ := h
    refine ⟨_, pss_one (ps_ret (pe_callTy call_tuple_of (by rfl) T.f_tuple (by decide +kernel) (pa_cons (pe_callB cr_sortedS (by rfl) T.f_sorted (by decide +kernel) (pa_cons (pe_lst (StX.pa_star (pv 0) (pa_cons (pv 1) pa_nil))) pa_nil)) pa_nil))), ?_⟩
    refine ⟨_, rfl, a, txs xs, rfl, .inl hx, _, rfl, by simp; rw [sizeLine_eq]; omega, fun p hp => ?_⟩
    have e : txs xs ++ [.str x] = txs (xs ++ [x]) := txs_snoc xs x
    rw [e]
    refine ⟨p, xs ++ [x], rfl, SqL.of upd_same, by simp; omega, fun ys q pm srt hq => ?_⟩
    refine ⟨q, _, rfl, .inl ⟨SqL.of upd_same, fun l hl => ?_⟩⟩
    have n1 : H q = none := (same_new hp).free hq
    have n2 : H l = none := (same_put (same_new hp) n1).free hl
    refine k ys _ l (same_put (same_put (same_new hp) n1) n2) n2 (pm.trans (perm_end xs x)) srt upd_same
theorem ok_changes (T : TX K mg) : FOk P w K mg base 2 ("changes", none) ["lot", "gone", "thing"] (spChanges K) := by
  refine T.fn 16 (d := d_changes) rfl rfl rfl sc_changes (fun vs H Q E h => ?_) (fun _ _ _ _ _ _ us hl => match us, hl with | [_, _, _], _ => rfl) (fun cdv A outer s H vs Q E hr h => ?_)
  · obtain ⟨a, xs, x, y, rfl, _⟩ := h; rfl
  · obtain ⟨a, xs, x, y, rfl, hx, hl, k⟩ := h
    refine ⟨_, pss_one (ps_ret (pe_cl (ok_with_thing T) hr T.g_with_thing (pa_cons (pe_cl (ok_less T) hr T.g_less (pa_cons (pv 0) (pa_cons (pe_tup (pa_cons (pv 1) pa_nil)) pa_nil))) (pa_cons (pv 2) pa_nil)))), ?_⟩
    refine ⟨_, rfl, _, rfl, len1, fun p hp => ?_⟩
    refine ⟨a, p, xs, [x], rfl, same_seqT (same_new hp) hx, SqT.of upd_same, by omega, fun H1 q s1 hq h1 => ?_⟩
    refine ⟨_, rfl, q, xs.filter (fun z => !mem [x] z), y, rfl, SqT.of h1, Nat.lt_of_le_of_lt (List.length_filter_le _ _) hl, fun ys H2 r s2 hr2 pm srt h2 => ?_⟩
    have s0 := ((same_new (o := .tup [.str x]) hp).trans s1).trans s2
    exact k ys H2 r s0 (((same_new (o := .tup [.str x]) hp).trans s1).free hr2) pm srt h2
end
end BF
set_option Elab.async false
set_option linter.all false
set_option maxRecDepth 100000
set_option maxHeartbeats 4000000
/-! Loops by place; need_things. -/
namespace BF
open PySem PySem.Spec PyProof.Rows L2
section
variable {D : Ends} {g : TG} {tb : TS} {σ : L2.St} {H : Hp} {J : It}
/-- a loop over n items -/
theorem forG (n : Nat) (Pv : Nat → L2.St → Hp → Prop) (h0 : Pv 0 σ H) (hgo : ∀ i σ H, i < n → Pv i σ H → J.go i H) (hend : ∀ σ H, Pv n σ H → J.stop n H ∧ D.nx σ H)
    (hb : ∀ i σ H, i < n → Pv i σ H → ∀ N : L2.St → Hp → Prop, (∀ σ' H', Pv (i + 1) σ' H' → N σ' H') → ∀ x H', J.yld i H x H' → g x σ H' fun σ2 H2 => tb { D with nx := N, ct := N, bk := D.nx } σ2 H2) :
    ∃ W : Nat → Nat → L2.St → Hp → Prop, (∃ m, W 0 m σ H) ∧ ∀ i m σ H, W i m σ H →
      (J.stop i H ∧ D.nx σ H) ∨ (J.go i H ∧ ∃ N : L2.St → Hp → Prop, (∀ σ' H', N σ' H' → ∃ m', m' < m ∧ W (i + 1) m' σ' H') ∧ ∀ x H', J.yld i H x H' → g x σ H' fun σ2 H2 => tb { D with nx := N, ct := N, bk := D.nx } σ2 H2) := by
  refine ⟨fun i m σ H => m = n - i ∧ i ≤ n ∧ Pv i σ H, ⟨n, by simp, Nat.zero_le _, h0⟩, ?_⟩
  rintro i m σ H ⟨rfl, hi, p⟩
  by_cases hlt : i < n
  · exact .inr ⟨hgo i σ H hlt p, Pv (i + 1), fun σ' H' p' => ⟨n - (i + 1), by omega, rfl, hlt, p'⟩, hb i σ H hlt p (Pv (i + 1)) fun _ _ q => q⟩
  · have e : i = n := by omega
    subst e
    exact .inl (hend σ H p)
/-- a loop over what stands: the heap is as it is when an item is taken -/
theorem forJ {xs : List V} {R : Hp → Hp → Prop} {H0 : Hp} (S : Src J xs R H0) (Pv : Nat → L2.St → Hp → Prop) (hR : ∀ i σ H, Pv i σ H → R H0 H) (h0 : Pv 0 σ H) (hend : ∀ σ H, Pv xs.length σ H → D.nx σ H)
    (hb : ∀ i x σ H, xs[i]? = some x → Pv i σ H → ∀ N : L2.St → Hp → Prop, (∀ σ' H', Pv (i + 1) σ' H' → N σ' H') → g x σ H fun σ2 H2 => tb { D with nx := N, ct := N, bk := D.nx } σ2 H2) :
    ∃ W : Nat → Nat → L2.St → Hp → Prop, (∃ m, W 0 m σ H) ∧ ∀ i m σ H, W i m σ H →
      (J.stop i H ∧ D.nx σ H) ∨ (J.go i H ∧ ∃ N : L2.St → Hp → Prop, (∀ σ' H', N σ' H' → ∃ m', m' < m ∧ W (i + 1) m' σ' H') ∧ ∀ x H', J.yld i H x H' → g x σ H' fun σ2 H2 => tb { D with nx := N, ct := N, bk := D.nx } σ2 H2) :=
  forG xs.length Pv h0 (fun i σ H hi p => S.go i H hi (hR _ _ _ p)) (fun σ H p => ⟨S.stop H (hR _ _ _ p), hend σ H p⟩) fun i σ H hi p N hN x H' y => by
    obtain ⟨e, hx⟩ := S.yld i H x H' hi (hR _ _ _ p) y
    subst e
    exact hb i x σ _ hx p N hN
/-- a loop over enumerate(list) -/
theorem forE {K : PySem.W.Frag} {l : Addr} {xs : List V} (Pv : Nat → L2.St → Hp → Prop) (hR : ∀ i σ H, Pv i σ H → SqL K H l xs) (h0 : Pv 0 σ H) (hend : ∀ σ H, Pv xs.length σ H → D.nx σ H)
    (hb : ∀ i x σ H T, xs[i]? = some x → Pv i σ H → H T = none → ∀ N : L2.St → Hp → Prop, (∀ σ' H', Pv (i + 1) σ' H' → N σ' H') → g (.ref T) σ (upd H T (.tup [.int (i : Nat), x])) fun σ2 H2 => tb { D with nx := N, ct := N, bk := D.nx } σ2 H2) :
    ∃ W : Nat → Nat → L2.St → Hp → Prop, (∃ m, W 0 m σ H) ∧ ∀ i m σ H, W i m σ H →
      ((Ite K l).stop i H ∧ D.nx σ H) ∨ ((Ite K l).go i H ∧ ∃ N : L2.St → Hp → Prop, (∀ σ' H', N σ' H' → ∃ m', m' < m ∧ W (i + 1) m' σ' H') ∧ ∀ x H', (Ite K l).yld i H x H' → g x σ H' fun σ2 H2 => tb { D with nx := N, ct := N, bk := D.nx } σ2 H2) :=
  forG xs.length Pv h0 (fun i σ H hi p => ⟨xs, xs[i], hR _ _ _ p, by simp [hi]⟩) (fun σ H p => ⟨⟨xs, hR _ _ _ p, Nat.le_refl _⟩, hend σ H p⟩) fun i σ H hi p N hN x H' y => by
    obtain ⟨T, z, rfl, hT, rfl, hz⟩ := y
    exact hb i z σ H T (hz xs (hR _ _ _ p)) p hT N hN
end
theorem same_seqL {K : PySem.W.Frag} {H H' : Hp} {a : Addr} {xs : List V} (e : Same H H') (h : SqL K H a xs) : SqL K H' a xs := by
  rcases h with (h | ⟨o, h⟩) | h
  · exact .inl (.inl (e _ _ h))
  · exact .inl (.inr ⟨o, e _ _ h⟩)
  · exact .inr h
theorem take_snoc {α} {xs : List α} {i : Nat} {x : α} (h : xs[i]? = some x) : xs.take (i + 1) = xs.take i ++ [x] := by
  rw [List.take_add_one, h]; rfl
theorem valV_keys {κ : Type} [DecidableEq κ] {k : κ} : ∀ {kvs : List (κ × V)}, k ∉ kvs.map (·.1) → valV kvs k = none
  | [], _ => rfl
  | p :: kvs, h => by
    rw [List.map_cons, List.mem_cons] at h
    rw [valV_neg fun e => h (.inl e.symm)]
    exact valV_keys fun q => h (.inr q)
/-- what was seen -/
abbrev seenK (xs : List Str) : List (Key × V) := xs.map fun x => (Sum.inr x, V.bl true)
theorem seenK_none {xs : List Str} {x : Str} (h : x ∉ xs) : valV (seenK xs) (Sum.inr x : Key) = none := by
  apply valV_keys
  rw [List.map_map]
  intro q
  obtain ⟨y, hy, e⟩ := List.mem_map.mp q
  cases e
  exact h hy
theorem not_in_take {xs : List Str} {i : Nat} {x : Str} (nd : xs.Nodup) (h : xs[i]? = some x) : x ∉ xs.take i := by
  intro q
  obtain ⟨j, hj, e⟩ := List.mem_iff_getElem.mp q
  have hji : j < i := by rw [List.length_take] at hj; omega
  rw [List.getElem_take] at e
  have hi : i < xs.length := by
    by_cases z : i < xs.length
    · exact z
    · rw [List.getElem?_eq_none (by omega)] at h; cases h
  rw [List.getElem?_eq_getElem hi] at h
  have e2 : xs[i] = x := Option.some.inj h
  have := (List.getElem_inj nd).mp (e.trans e2.symm)
  omega
def spNeedThings (K : PySem.W.Frag) : Sp := fun vs H Q _ => ∃ (a : Addr) (xs : List Str) (n : Int), vs = [.ref a, .int n] ∧ SqL K H a (txs xs) ∧ (xs.length : Int) ≤ n ∧ xs.length < 60 ∧ xs.Nodup ∧ (∀ x ∈ xs, good x = true) ∧
  ∀ ys H' p, Same H H' → H p = none → ys.Perm xs → sortedS ys = true → H' p = some (.lst (txs ys)) → Q (.ref p) H'
theorem sc_need_things : FnScope ["things", "most", "seen", "index", "name"] ["things", "most"] (defScope s_need_things) := ⟨rfl, rfl, rfl, by decide +kernel, rfl, by decide +kernel, by decide +kernel⟩
section
variable {P : Program} {w : World} {K : PySem.W.Frag} {mg : Str → Option Value} {base : Heap}
theorem ok_need_things (T : TX K mg) : FOk P w K mg base 2 ("need_things", none) ["things", "most"] (spNeedThings K) := by
  refine T.fn 2 (d := d_need_things) rfl rfl rfl sc_need_things (fun vs H Q E h => ?_) (fun _ _ _ _ _ _ us hl => match us, hl with | [_, _], _ => rfl) (fun cdv A outer s H vs Q E hr h => ?_)
  · obtain ⟨a, xs, n, rfl, _⟩ := h; rfl
  · obtain ⟨a, xs, n, rfl, hx, hn, h60, nd, hg, k⟩ := h
    have hu := hu_of hr
    refine ⟨_, pss_cons (ps_if (pt_cmp (pc_gt (pe_callB call_len_seq (by rfl) T.f_len (by decide +kernel) (pa_cons (pv 0) pa_nil)) (pv 1))) pss_never pss_nil)
      (pss_cons (ps_set (i := 2) sc_need_things.nd rfl (Or.inl rfl) pe_dnewK)
      (pss_cons (ps_for PassesOwn.never rfl (pi_enum (by rfl) T.f_enumerate (pa_cons (pv 0) pa_nil)) (pg_tup rfl (pgs_cons (pg_name (i := 3) sc_need_things.nd rfl (.inl rfl)) (pgs_cons (pg_name (i := 4) sc_need_things.nd rfl (.inl rfl)) pgs_nil)))
        (pss_cons (ps_if (pw_or (pt_not (pt_val (pe_cl (ok_is_name T) hr T.g_is_name (pa_cons (pv 4) pa_nil)))) (pw_or1 (pt_cmp (pc_din hu (pv 4) (pv 2))))).pt pss_never pss_nil)
          (pss_one (ps_dput hu (pv 2) (pv 4) pe_bl rfl))))
      (pss_one (ps_ret (pe_callB cr_sortedS (by rfl) T.f_sorted (by decide +kernel) (pa_cons (pv 0) pa_nil)))))), ?_⟩
    refine ⟨_, rfl, a, txs xs, rfl, .inl hx, _, rfl, _, _, rfl, rfl, _, rfl, ?_⟩
    refine ifF (decide_eq_false (by simp; omega)) fun d hd => ?_
    refine ⟨_, rfl, a, txs xs, rfl, same_seqL (same_new hd) hx, ?_⟩
    refine forE (fun i σ H1 => (∃ o3 o4, σ = [some (.ref a), some (.int n), some (.ref d), o3, o4]) ∧ Same H H1 ∧ H1 d = some (.dK (seenK (xs.take i)))) (fun i σ H1 p => same_seqL p.2.1 hx) ⟨⟨none, none, rfl⟩, same_new hd, upd_same⟩ ?_ ?_
    · rintro σ H1 ⟨⟨o3, o4, rfl⟩, s1, _⟩
      refine ⟨_, rfl, a, xs, rfl, same_seqL s1 hx, by omega, fun ys p pm srt hp => ?_⟩
      exact k ys _ p (same_put s1 (s1.free hp)) (s1.free hp) pm srt upd_same
    · rintro i x σ H1 T' hi ⟨⟨o3, o4, rfl⟩, s1, h1⟩ hT N hN
      obtain ⟨y, hy, rfl⟩ := txs_at hi
      have hyx : y ∈ xs := List.mem_of_getElem? hy
      refine ⟨T', _, rfl, SqT.of upd_same, rfl, _, _, rfl, _, _, rfl, rfl, ?_⟩
      refine ⟨_, rfl, y, rfl, hg y hyx, fun H2 s2 => ⟨_, rfl, ?_⟩⟩
      have hd2 : H2 d = some (.dK (seenK (xs.take i))) := s2 _ _ (by rw [upd_ne (ne_of_none h1 hT)]; exact h1)
      have ny := not_in_take nd hy
      have sH : Same H H2 := fun b o e => s2 _ _ (same_put s1 (s1.free hT) _ _ e)
      refine iteF ⟨_, rfl, _, rfl, d, _, rfl, DGet.k (k := .inr y) hd2, _, rfl, ?_⟩
      rw [seenK_none ny]
      refine iteF ⟨_, rfl, _, rfl, d, _, rfl, DPut.k (k := .inr y) hd2 ?_, ?_⟩
      · rw [List.length_map, List.length_take, sizeLine_eq]; omega
      · refine hN _ _ ⟨⟨_, _, rfl⟩, same_put sH hd, ?_⟩
        rw [upd_same, putK_new _ (seenK_none ny), take_snoc hy]
        exact congrArg (fun z => some (HO.dK z)) (List.map_append (l₁ := xs.take i) (l₂ := [y])).symm
end
end BF
set_option Elab.async false
set_option linter.all false
set_option maxRecDepth 100000
set_option maxHeartbeats 4000000
/-! The small methods: __init__, __len__, __contains__. -/
namespace BF
open PySem PySem.Spec PyProof.Rows L2
/-- all but a stays -/
def Exc (a : Addr) (H H' : Hp) : Prop := ∀ b o, b ≠ a → H b = some o → H' b = some o
theorem Exc.refl {a : Addr} {H : Hp} : Exc a H H := fun _ _ _ h => h
theorem Exc.put {a : Addr} {H H' : Hp} {o : HO} (h : Exc a H H') : Exc a H (upd H' a o) := fun b u n e => by rw [upd_ne n]; exact h b u n e
theorem Exc.new {a p : Addr} {H H' : Hp} {o : HO} (h : Exc a H H') (n : H p = none) : Exc a H (upd H' p o) := fun b u ne e => by rw [upd_ne (ne_of_none e n)]; exact h b u ne e
theorem Exc.same {a : Addr} {H H' H2 : Hp} (h : Exc a H H') (s : Same H' H2) : Exc a H H2 := fun b u ne e => s _ _ (h b u ne e)
theorem exc_of {a : Addr} {H H' : Hp} (s : Same H H') : Exc a H H' := fun b u _ e => s _ _ e
/-- behind a making: the caller's heap stands -/
theorem Exc.made {x dx : Addr} {C : Addr} {H1 H' : Hp} (h1 : H1 x = none) (h2 : H1 dx = none) (e : Exc x (upd (upd H1 dx (.own x)) x (.ins C dx [])) H') : Same H1 H' := fun b o hb =>
  e b o (ne_of_none hb h1) (by rw [upd_ne (ne_of_none hb h1), upd_ne (ne_of_none hb h2)]; exact hb)
theorem made_free {x dx p : Addr} {C : Addr} {H1 : Hp} (h : (upd (upd H1 dx (.own x)) x (.ins C dx [])) p = none) : H1 p = none := by
  by_cases e : p = x
  · subst e; rw [upd_same] at h; cases h
  · rw [upd_ne e] at h
    by_cases e2 : p = dx
    · subst e2; rw [upd_same] at h; cases h
    · rw [upd_ne e2] at h; exact h
def spInit1 (C : Addr) (F : Addr → List (Str × V)) : Sp := fun vs H Q _ => ∃ a dx b : Addr, vs = [.ref a, .ref b] ∧ H a = some (.ins C dx []) ∧ ∀ H', Exc a H H' → H' a = some (.ins C dx (F b)) → Q .non H'
def spInit2 (C : Addr) (F : Addr → Addr → List (Str × V)) : Sp := fun vs H Q _ => ∃ a dx b c : Addr, vs = [.ref a, .ref b, .ref c] ∧ H a = some (.ins C dx []) ∧ ∀ H', Exc a H H' → H' a = some (.ins C dx (F b c)) → Q .non H'
def spShortInit (K : PySem.W.Frag) : Sp := fun vs H Q _ => ∃ (a dx b : Addr) (c : Nat), vs = [.ref a, .ref b, .int c] ∧ H a = some (.ins (He.ga K "Short") dx []) ∧ ∀ H', Exc a H H' → H' a = some (.ins (He.ga K "Short") dx (shortF b c)) → Q .non H'
def spFamInit (K : PySem.W.Frag) : Sp := fun vs H Q _ => ∃ (a dx nl s : Addr) (E : List Str), vs = [.ref a, .ref nl, .ref s] ∧ H a = some (.ins (He.ga K "Family") dx []) ∧ (H nl = some (.lst (txs E)) ∨ H nl = some (.tup (txs E))) ∧
  ∀ H' nt d, Exc a H H' → H' a = some (.ins (He.ga K "Family") dx (famF nt s d)) → H' nt = some (.tup (txs E)) → H' d = some (.dT []) → H d = none → Q .non H'
structure FamAt (K : PySem.W.Frag) (H : Hp) (a nt s d : Addr) (E : List Str) : Prop where
  ob : ∃ dx, H a = some (.ins (He.ga K "Family") dx (famF nt s d))
  nm : H nt = some (.tup (txs E))
def spFamLen (K : PySem.W.Frag) : Sp := fun vs H Q _ => ∃ (a nt s d : Addr) (E : List Str), vs = [.ref a] ∧ FamAt K H a nt s d E ∧ Q (.int E.length) H
def spFamIn (K : PySem.W.Frag) : Sp := fun vs H Q _ => ∃ (a nt s d : Addr) (E : List Str) (x : Str), vs = [.ref a, .str x] ∧ FamAt K H a nt s d E ∧ Q (.bl (mem E x)) H
def spAllFree (K : PySem.W.Frag) : Sp := fun vs H Q _ => ∃ (a l : Addr) (xs : List Str), vs = [.ref a, .ref l] ∧ SqT K H l (txs xs) ∧ Q (.int xs.length) H
theorem sc_Family_init : FnScope ["self", "names", "world"] ["self", "names", "world"] (defScope s_Family_init) := ⟨rfl, rfl, rfl, by decide +kernel, rfl, by decide +kernel, by decide +kernel⟩
theorem sc_Family_len : FnScope ["self"] ["self"] (defScope s_Family_len) := ⟨rfl, rfl, rfl, by decide +kernel, rfl, by decide +kernel, by decide +kernel⟩
theorem sc_Family_contains : FnScope ["self", "thing"] ["self", "thing"] (defScope s_Family_contains) := ⟨rfl, rfl, rfl, by decide +kernel, rfl, by decide +kernel, by decide +kernel⟩
theorem sc_Listed_init : FnScope ["self", "lots"] ["self", "lots"] (defScope s_Listed_init) := ⟨rfl, rfl, rfl, by decide +kernel, rfl, by decide +kernel, by decide +kernel⟩
theorem sc_Joined_init : FnScope ["self", "first", "second"] ["self", "first", "second"] (defScope s_Joined_init) := ⟨rfl, rfl, rfl, by decide +kernel, rfl, by decide +kernel, by decide +kernel⟩
theorem sc_Short_init : FnScope ["self", "family", "most"] ["self", "family", "most"] (defScope s_Short_init) := ⟨rfl, rfl, rfl, by decide +kernel, rfl, by decide +kernel, by decide +kernel⟩
theorem sc_Renamed_init : FnScope ["self", "family", "olds"] ["self", "family", "olds"] (defScope s_Renamed_init) := ⟨rfl, rfl, rfl, by decide +kernel, rfl, by decide +kernel, by decide +kernel⟩
theorem sc_AllFree_count_free : FnScope ["self", "lot"] ["self", "lot"] (defScope s_AllFree_count_free) := ⟨rfl, rfl, rfl, by decide +kernel, rfl, by decide +kernel, by decide +kernel⟩
theorem putF_c {f g : Str} {v x : V} {r : List (Str × V)} (h : ¬ g = f) : putF f v ((g, x) :: r) = (g, x) :: putF f v r := if_neg h
theorem putF2 {f g : Str} {x y : V} (h : ¬ f = g) : putF g y [(f, x)] = [(f, x), (g, y)] := putF_c h
theorem putF3 {f g k : Str} {x y z : V} (h2 : ¬ f = k) (h3 : ¬ g = k) : putF k z [(f, x), (g, y)] = [(f, x), (g, y), (k, z)] := by
  rw [putF_c h2, putF_c h3]; rfl
theorem ne_fs : ¬ (("first" : Str) = "second") := by decide +kernel
theorem ne_ic : ¬ (("inner" : Str) = "cap") := by decide +kernel
theorem ne_io : ¬ (("inner" : Str) = "olds") := by decide +kernel
theorem ne_p {H : Hp} {a p : Addr} {o : HO} (h : H a = some o) (n : H p = none) : a ≠ p := fun e => by rw [e, n] at h; cases h
section
variable {P : Program} {w : World} {K : PySem.W.Frag} {mg : Str → Option Value} {base : Heap}
theorem ok_Family_init (T : TX K mg) : FOk P w K mg base 1 ("Family", some "__init__") ["self", "names", "world"] (spFamInit K) := by
  refine T.fn 7 (d := d_Family_init) rfl rfl rfl sc_Family_init (fun vs H Q E h => ?_) (fun _ _ _ _ _ _ us hl => match us, hl with | [_, _, _], _ => rfl) (fun cdv A outer s H vs Q E hr h => ?_)
  · obtain ⟨a, dx, nl, s, E, rfl, _⟩ := h; rfl
  · obtain ⟨a, dx, nl, s, E, rfl, ha, hn, k⟩ := h
    refine ⟨_, pss_cons (ps_fld (pv 0) (pe_callTy call_tuple_of (by rfl) T.f_tuple (by decide +kernel) (pa_cons (pv 1) pa_nil)) rfl) (pss_cons (ps_fld (pv 0) (pv 2) rfl) (pss_one (ps_fld (pv 0) pe_dnewT rfl))), ?_⟩
    have go : ∀ nt H1, Same H H1 → H1 nt = some (.tup (txs E)) → sFld K (tVar 0) (tC (.ref nt)) "names" { nx := fun σ H' => tSeq (sFld K (tVar 0) (tVar 2) "source") (sFld K (tVar 0) tDNewT "counted") { nx := fun _ H' => Q .non H', rt := Q } σ H', rt := Q } (L2.start ["self", "names", "world"] [.ref a, .ref nl, .ref s]) H1 := by
      intro nt H1 s1 h1
      have ha1 := s1 _ _ ha
      refine ⟨_, rfl, a, _, dx, [], rfl, ha1, T.cl_Family, T.na_Family_names, by decide, ?_⟩
      refine ⟨_, rfl, _, rfl, a, _, dx, [("names", .ref nt)], rfl, upd_same, T.cl_Family, T.na_Family_source, by show 1 < 1000; omega, fun p hp => ?_⟩
      rw [putF2 ne_ns]
      have hpa : a ≠ p := ne_p upd_same hp
      refine ⟨_, rfl, a, _, dx, [("names", .ref nt), ("source", .ref s)], rfl, by rw [upd_ne hpa, upd_same], T.cl_Family, T.na_Family_counted, by show 2 < 1000; omega, ?_⟩
      rw [putF3 ne_nc ne_sc]
      have hp1 : H1 p = none := by rw [upd_ne (Ne.symm hpa), upd_ne (Ne.symm hpa)] at hp; exact hp
      have hta : nt ≠ a := fun e => by rw [e, ha1] at h1; cases h1
      have htp : nt ≠ p := ne_p h1 hp1
      refine k _ nt p ?_ upd_same ?_ ?_ (s1.free hp1)
      · exact ((((exc_of s1).put (o := _)).put (o := _)).new (s1.free hp1)).put
      · rw [upd_ne hta, upd_ne htp, upd_ne hta, upd_ne hta]; exact h1
      · rw [upd_ne (Ne.symm hpa), upd_same]
    rcases hn with hn | hn
    · exact ⟨_, rfl, nl, _, rfl, .inl ⟨SqL.of hn, fun l hl => go l _ (same_new hl) upd_same⟩⟩
    · exact ⟨_, rfl, nl, _, rfl, .inr ⟨SqT.of hn, go nl H (Same.refl _) hn⟩⟩
theorem ok_Family_len (T : TX K mg) : FOk P w K mg base 1 ("Family", some "__len__") ["self"] (spFamLen K) := by
  refine T.fn 9 (d := d_Family_len) rfl rfl rfl sc_Family_len (fun vs H Q E h => ?_) (fun _ _ _ _ _ _ us hl => match us, hl with | [_], _ => rfl) (fun cdv A outer s H vs Q E hr h => ?_)
  · obtain ⟨a, nt, s, d, E, rfl, _⟩ := h; rfl
  · obtain ⟨a, nt, s, d, E, rfl, ⟨⟨dx, ha⟩, hn⟩, k⟩ := h
    refine ⟨_, pss_one (ps_ret (pe_callB call_len_seq (by rfl) T.f_len (by decide +kernel) (pa_cons (pe_fld (pv 0) rfl) pa_nil))), ?_⟩
    refine ⟨_, rfl, a, _, dx, _, _, rfl, ha, T.cl_Family, T.na_Family_names, famF_names _ _ _, nt, txs E, rfl, .inr (SqT.of hn), ?_⟩
    rw [List.length_map]; exact k
theorem ok_Family_contains (T : TX K mg) : FOk P w K mg base 1 ("Family", some "__contains__") ["self", "thing"] (spFamIn K) := by
  refine T.fn 10 (d := d_Family_contains) rfl rfl rfl sc_Family_contains (fun vs H Q E h => ?_) (fun _ _ _ _ _ _ us hl => match us, hl with | [_, _], _ => rfl) (fun cdv A outer s H vs Q E hr h => ?_)
  · obtain ⟨a, nt, s, d, E, x, rfl, _⟩ := h; rfl
  · obtain ⟨a, nt, s, d, E, x, rfl, ⟨⟨dx, ha⟩, hn⟩, k⟩ := h
    refine ⟨_, pss_one (ps_ret (pe_cmpR op_in_seq (pv 1) (pe_fld (pv 0) rfl) (by rfl))), ?_⟩
    refine ⟨_, rfl, _, rfl, a, _, dx, _, _, rfl, ha, T.cl_Family, T.na_Family_names, famF_names _ _ _, nt, txs E, rfl, .inr (SqT.of hn), rfl, flat_txs _, ?_⟩
    rw [if_neg (by decide), inV_txs]
    exact k
theorem ok_Listed_init (T : TX K mg) : FOk P w K mg base 1 ("Listed", some "__init__") ["self", "lots"] (spInit1 (He.ga K "Listed") listF) := by
  refine T.fn 13 (d := d_Listed_init) rfl rfl rfl sc_Listed_init (fun vs H Q E h => ?_) (fun _ _ _ _ _ _ us hl => match us, hl with | [_, _], _ => rfl) (fun cdv A outer s H vs Q E hr h => ?_)
  · obtain ⟨a, dx, b, rfl, _⟩ := h; rfl
  · obtain ⟨a, dx, b, rfl, ha, k⟩ := h
    refine ⟨_, pss_one (ps_fld (pv 0) (pv 1) rfl), ?_⟩
    refine ⟨_, rfl, _, rfl, a, _, dx, [], rfl, ha, T.cl_Listed, T.na_Listed_lots, by decide, ?_⟩
    exact k _ Exc.refl.put upd_same
theorem ok_Joined_init (T : TX K mg) : FOk P w K mg base 1 ("Joined", some "__init__") ["self", "first", "second"] (spInit2 (He.ga K "Joined") joinF) := by
  refine T.fn 37 (d := d_Joined_init) rfl rfl rfl sc_Joined_init (fun vs H Q E h => ?_) (fun _ _ _ _ _ _ us hl => match us, hl with | [_, _, _], _ => rfl) (fun cdv A outer s H vs Q E hr h => ?_)
  · obtain ⟨a, dx, b, c, rfl, _⟩ := h; rfl
  · obtain ⟨a, dx, b, c, rfl, ha, k⟩ := h
    refine ⟨_, pss_cons (ps_fld (pv 0) (pv 1) rfl) (pss_one (ps_fld (pv 0) (pv 2) rfl)), ?_⟩
    refine ⟨_, rfl, _, rfl, a, _, dx, [], rfl, ha, T.cl_Joined, T.na_Joined_first, by decide, ?_⟩
    refine ⟨_, rfl, _, rfl, a, _, dx, [("first", .ref b)], rfl, upd_same, T.cl_Joined, T.na_Joined_second, by show 1 < 1000; omega, ?_⟩
    rw [putF2 ne_fs]
    exact k _ Exc.refl.put.put upd_same
theorem ok_Short_init (T : TX K mg) : FOk P w K mg base 1 ("Short", some "__init__") ["self", "family", "most"] (spShortInit K) := by
  refine T.fn 39 (d := d_Short_init) rfl rfl rfl sc_Short_init (fun vs H Q E h => ?_) (fun _ _ _ _ _ _ us hl => match us, hl with | [_, _, _], _ => rfl) (fun cdv A outer s H vs Q E hr h => ?_)
  · obtain ⟨a, dx, b, c, rfl, _⟩ := h; rfl
  · obtain ⟨a, dx, b, c, rfl, ha, k⟩ := h
    refine ⟨_, pss_cons (ps_fld (pv 0) (pv 1) rfl) (pss_one (ps_fld (pv 0) (pv 2) rfl)), ?_⟩
    refine ⟨_, rfl, _, rfl, a, _, dx, [], rfl, ha, T.cl_Short, T.na_Short_inner, by decide, ?_⟩
    refine ⟨_, rfl, _, rfl, a, _, dx, [("inner", .ref b)], rfl, upd_same, T.cl_Short, T.na_Short_cap, by show 1 < 1000; omega, ?_⟩
    rw [putF2 ne_ic]
    exact k _ Exc.refl.put.put upd_same
theorem ok_Renamed_init (T : TX K mg) : FOk P w K mg base 1 ("Renamed", some "__init__") ["self", "family", "olds"] (spInit2 (He.ga K "Renamed") renF) := by
  refine T.fn 42 (d := d_Renamed_init) rfl rfl rfl sc_Renamed_init (fun vs H Q E h => ?_) (fun _ _ _ _ _ _ us hl => match us, hl with | [_, _, _], _ => rfl) (fun cdv A outer s H vs Q E hr h => ?_)
  · obtain ⟨a, dx, b, c, rfl, _⟩ := h; rfl
  · obtain ⟨a, dx, b, c, rfl, ha, k⟩ := h
    refine ⟨_, pss_cons (ps_fld (pv 0) (pv 1) rfl) (pss_one (ps_fld (pv 0) (pv 2) rfl)), ?_⟩
    refine ⟨_, rfl, _, rfl, a, _, dx, [], rfl, ha, T.cl_Renamed, T.na_Renamed_inner, by decide, ?_⟩
    refine ⟨_, rfl, _, rfl, a, _, dx, [("inner", .ref b)], rfl, upd_same, T.cl_Renamed, T.na_Renamed_olds, by show 1 < 1000; omega, ?_⟩
    rw [putF2 ne_io]
    exact k _ Exc.refl.put.put upd_same
theorem ok_AllFree_count_free (T : TX K mg) : FOk P w K mg base 1 ("AllFree", some "count_free") ["self", "lot"] (spAllFree K) := by
  refine T.fn 41 (d := d_AllFree_count_free) rfl rfl rfl sc_AllFree_count_free (fun vs H Q E h => ?_) (fun _ _ _ _ _ _ us hl => match us, hl with | [_, _], _ => rfl) (fun cdv A outer s H vs Q E hr h => ?_)
  · obtain ⟨a, l, xs, rfl, _⟩ := h; rfl
  · obtain ⟨a, l, xs, rfl, hx, k⟩ := h
    refine ⟨_, pss_one (ps_ret (pe_callB call_len_seq (by rfl) T.f_len (by decide +kernel) (pa_cons (pv 1) pa_nil))), ?_⟩
    refine ⟨_, rfl, l, txs xs, rfl, .inr hx, ?_⟩
    rw [List.length_map]; exact k
end
end BF
set_option Elab.async false
set_option linter.all false
set_option maxRecDepth 100000
set_option maxHeartbeats 4000000
/-! Dict comprehensions; webs: marks, count_free. -/
namespace BF
open PySem PySem.Spec PyProof.Rows L2
theorem picks_lt {n i : Nat} {f : Nat → Bool} (h : i ∈ picks n f) : i < n ∧ f i = true := by
  unfold picks at h
  obtain ⟨a, b⟩ := List.mem_filter.mp h
  exact ⟨List.mem_range.mp a, b⟩
theorem paired_mem {β γ : Type} {F : β → γ → Prop} : ∀ {xs : List β} {ys : List γ} {y : γ}, Paired F xs ys → y ∈ ys → ∃ x ∈ xs, F x y
  | _, _, _, .nil, h => by cases h
  | _, _, _, .cons a t, h => by
    rcases List.mem_cons.mp h with rfl | h
    · exact ⟨_, List.mem_cons_self, a⟩
    · obtain ⟨x, hx, q⟩ := paired_mem t h
      exact ⟨x, List.mem_cons_of_mem _ hx, q⟩
section
variable {H0 : Hp} {σ : L2.St} {j : Nat} {vs : List Nat} {tt : TT} {tk tv : TE}
/-- {k: v for x in xs if t}, keys ints or texts -/
theorem dcK {J : It} {xs : List V} {H1 : Hp} {D : Addr} {Qd : Hp → Prop} (S : Src J xs Same H0) (f : Nat → Bool) (k : Nat → Key) (P : Nat → V → Hp → Prop) (hz : xs.length ≤ 1000000)
    (st1 : ∀ i v H1 H2, P i v H1 → Same H1 H2 → P i v H2) (st2 : ∀ i v H1 l l', P i v H1 → H1 D = some (.dK l) → P i v (upd H1 D (.dK l')))
    (kn : ∀ i j, j < i → i < xs.length → f i = true → f j = true → k j ≠ k i)
    (hw : ∀ x, wipe ((wipe σ vs).set j (some x)) vs = wipe σ vs) (hD : H0 D = none) (h1 : Same H0 (upd H1 D (.dK [])))
    (ht : ∀ i x H1 (Qb : Bool → Hp → Prop), xs[i]? = some x → Same H0 H1 → (∀ H2, Same H1 H2 → Qb (f i) H2) → tt ((wipe σ vs).set j (some x)) H1 Qb)
    (he : ∀ i x H1 (Qv : V → V → Hp → Prop), xs[i]? = some x → f i = true → Same H0 H1 → (∀ v H2, Same H1 H2 → P i v H2 → Qv (kV (k i)) v H2) → tk ((wipe σ vs).set j (some x)) H1 fun y H4 => tv ((wipe σ vs).set j (some x)) H4 fun z H5 => Qv y z H5)
    (hd : ∀ H kvs, Same H0 H → H D = some (.dK kvs) → Paired (fun i p => p.1 = k i ∧ P i p.2 H) (picks xs.length f) kvs → Qd H) :
    ∃ W : Nat → Nat → Hp → Prop, (∃ m, W 0 m (upd H1 D (.dK []))) ∧ ∀ i m H, W i m H →
      (J.stop i H ∧ Qd H) ∨ (J.go i H ∧ ∃ Nx : Hp → Prop, (∀ H', Nx H' → ∃ m', m' < m ∧ W (i + 1) m' H') ∧ ∀ x H', J.yld i H x H' → gName j x (wipe σ vs) H' fun σ2 H2 => wipe σ2 vs = wipe σ vs ∧ tt σ2 H2 fun b H3 =>
        if b = true then tk σ2 H3 fun y H4 => tv σ2 H4 fun z H5 => ∃ kvs k, y = kV k ∧ H5 D = some (.dK kvs) ∧ kvs.length < sizeLine ∧ Nx (upd H5 D (.dK (putK kvs k z))) else Nx H3) := by
  have big : (1000000 : Nat) < sizeLine := by decide
  let Pv : Nat → Hp → Prop := fun i H => Same H0 H ∧ ∃ kvs, H D = some (.dK kvs) ∧ Paired (fun i p => p.1 = k i ∧ P i p.2 H) (picks i f) kvs
  refine ⟨fun i m H => m = xs.length - i ∧ i ≤ xs.length ∧ Pv i H, ⟨xs.length, by simp, Nat.zero_le _, h1, [], upd_same, .nil⟩, ?_⟩
  rintro i m H ⟨rfl, hi, r, us, hu, pu⟩
  by_cases hlt : i < xs.length
  · refine .inr ⟨S.go i H hlt r, Pv (i + 1), fun H' p' => ⟨xs.length - (i + 1), by omega, rfl, hlt, p'⟩, fun x H' y => ?_⟩
    obtain ⟨e, hx⟩ := S.yld i H x H' hlt r y
    subst e
    refine ⟨hw x, ?_⟩
    refine ht i x _ _ hx r fun H2 r2 => ?_
    have u2 := r2 _ _ hu
    have p2 : Paired (fun i p => p.1 = k i ∧ P i p.2 H2) (picks i f) us := Paired.imp (fun a b q => ⟨q.1, st1 _ _ _ _ q.2 r2⟩) pu
    cases eb : f i with
    | false =>
      rw [if_neg Bool.false_ne_true]
      exact ⟨r.trans r2, us, u2, by rw [picks_no eb]; exact p2⟩
    | true =>
      rw [if_pos rfl]
      refine he i x _ _ hx eb (r.trans r2) fun v H3 r3 pv => ?_
      have u3 := r3 _ _ u2
      have hl : us.length ≤ i := by rw [← Paired.length pu]; exact picks_len i f
      refine ⟨us, k i, rfl, u3, by omega, same_put ((r.trans r2).trans r3) hD, us ++ [(k i, v)], ?_, ?_⟩
      · rw [upd_same, putK_new]
        apply valV_keys
        intro q
        obtain ⟨p, hp, e⟩ := List.mem_map.mp q
        obtain ⟨j, hj, e2, _⟩ := paired_mem pu hp
        obtain ⟨a, b⟩ := picks_lt hj
        exact kn i j a hlt eb b (e2.symm.trans e)
      · rw [picks_yes eb]
        exact Paired.snoc (Paired.imp (fun a b q => ⟨q.1, st2 _ _ _ _ _ (st1 _ _ _ _ q.2 r3) u3⟩) p2) ⟨rfl, st2 _ _ _ _ _ pv u3⟩
  · have e : i = xs.length := by omega
    subst e
    exact .inl ⟨S.stop H r, hd H us r hu pu⟩
end
/-! ### dicts over a list of texts -/
abbrev dictF (ps : List Str) (g : Str → V) : List (Key × V) := ps.map fun p => (Sum.inr p, g p)
theorem dictF_val {g : Str → V} {p : Str} : ∀ {ps : List Str}, p ∈ ps → valV (dictF ps g) (Sum.inr p : Key) = some (g p)
  | q :: ps, h => by
    by_cases e : q = p
    · subst e; exact valV_pos rfl
    · show valV ((Sum.inr q, g q) :: dictF ps g) _ = _
      rw [valV_neg (fun z => e (Sum.inr.inj z))]
      rcases List.mem_cons.mp h with rfl | h
      · exact absurd rfl e
      · exact dictF_val h
theorem dictF_none {g : Str → V} {p : Str} {ps : List Str} (h : p ∉ ps) : valV (dictF ps g) (Sum.inr p : Key) = none := by
  apply valV_keys
  rw [List.map_map]
  intro q
  obtain ⟨y, hy, e⟩ := List.mem_map.mp q
  cases e
  exact h hy
theorem dictF_congr {g g' : Str → V} {ps : List Str} (h : ∀ p ∈ ps, g p = g' p) : dictF ps g = dictF ps g' := List.map_congr_left fun p hp => by rw [h p hp]
theorem dictF_put {g : Str → V} {p : Str} {y : V} {ps : List Str} (h : p ∈ ps) : putK (dictF ps g) (Sum.inr p : Key) y = dictF ps fun q => if q = p then y else g q := by
  unfold putK
  rw [if_pos (by rw [valV_any, dictF_val h]; rfl), List.map_map]
  refine List.map_congr_left fun q _ => ?_
  show (if (Sum.inr q : Key) = Sum.inr p then ((Sum.inr q : Key), y) else (Sum.inr q, g q)) = _
  by_cases e : q = p
  · rw [if_pos (by rw [e])]
    exact congrArg (fun z => ((Sum.inr q : Key), z)) (if_pos e).symm
  · rw [if_neg (fun z => e (Sum.inr.inj z))]
    exact congrArg (fun z => ((Sum.inr q : Key), z)) (if_neg e).symm
/-! ### the marks, in plain -/
structure MarkInv (e : Str → Str × Str) (ps : List Str) (pre : List Str) (f : Str → Str) : Prop where
  cg : ∀ a ∈ ps, ∀ b ∈ ps, (f a = f b ↔ Conn e pre a b)
  inn : ∀ a ∈ ps, f a ∈ ps
  idem : ∀ a ∈ ps, f (f a) = f a
def moved (ps : List Str) (f : Str → Str) : Nat := (ps.filter fun p => decide (f p ≠ p)).length
theorem MarkInv.start (e : Str → Str × Str) (ps : List Str) : MarkInv e ps [] id := ⟨fun a _ b _ => Iff.rfl, fun _ h => h, fun _ _ => rfl⟩
def merge (f : Str → Str) (low high : Str) : Str → Str := fun p => if f p = high then low else f p
section
variable {e : Str → Str × Str} {ps pre : List Str} {f : Str → Str} {t : Str}
theorem MarkInv.skip (M : MarkInv e ps pre f) (h1 : (e t).1 ∈ ps) (h2 : (e t).2 ∈ ps) (h : f (e t).1 = f (e t).2) : MarkInv e ps (t :: pre) f := by
  have c := (M.cg _ h1 _ h2).mp h
  refine ⟨fun a ha b hb => ⟨fun q => .inl ((M.cg a ha b hb).mp q), fun q => (M.cg a ha b hb).mpr ?_⟩, M.inn, M.idem⟩
  rcases q with q | ⟨q, q'⟩ | ⟨q, q'⟩
  · exact q
  · exact q.trans (c.trans q')
  · exact q.trans (c.symm.trans q')
theorem MarkInv.merge (M : MarkInv e ps pre f) (h1 : (e t).1 ∈ ps) (h2 : (e t).2 ∈ ps) {low high : Str} (hne : low ≠ high) (hl : (f (e t).1 = low ∧ f (e t).2 = high) ∨ (f (e t).1 = high ∧ f (e t).2 = low)) : MarkInv e ps (t :: pre) (BF.merge f low high) := by
  have lin : low ∈ ps := by
    rcases hl with ⟨q, _⟩ | ⟨_, q⟩
    · rw [← q]; exact M.inn _ h1
    · rw [← q]; exact M.inn _ h2
  have fl : f low = low := by
    rcases hl with ⟨q, _⟩ | ⟨_, q⟩
    · rw [← q]; exact M.idem _ h1
    · rw [← q]; exact M.idem _ h2
  have cc : ∀ {a b}, a ∈ ps → b ∈ ps → f a = f b → Conn e pre a b := fun ha hb q => (M.cg _ ha _ hb).mp q
  refine ⟨fun a ha b hb => ⟨fun q => ?_, fun q => ?_⟩, fun a ha => ?_, fun a ha => ?_⟩
  · unfold BF.merge at q
    by_cases ea : f a = high
    · by_cases eb : f b = high
      · exact .inl (cc ha hb (ea.trans eb.symm))
      · rw [if_pos ea, if_neg eb] at q
        rcases hl with ⟨x, y⟩ | ⟨x, y⟩
        · exact .inr (.inr ⟨cc ha h2 (ea.trans y.symm), cc h1 hb (x.trans q)⟩)
        · exact .inr (.inl ⟨cc ha h1 (ea.trans x.symm), cc h2 hb (y.trans q)⟩)
    · by_cases eb : f b = high
      · rw [if_neg ea, if_pos eb] at q
        rcases hl with ⟨x, y⟩ | ⟨x, y⟩
        · exact .inr (.inl ⟨cc ha h1 (q.trans x.symm), cc h2 hb (y.trans eb.symm)⟩)
        · exact .inr (.inr ⟨cc ha h2 (q.trans y.symm), cc h1 hb (x.trans eb.symm)⟩)
      · rw [if_neg ea, if_neg eb] at q
        exact .inl (cc ha hb q)
  · have key : BF.merge f low high (e t).1 = BF.merge f low high (e t).2 := by
      unfold BF.merge
      rcases hl with ⟨x, y⟩ | ⟨x, y⟩
      · rw [x, y, if_neg hne, if_pos rfl]
      · rw [x, y, if_pos rfl, if_neg hne]
    have st : ∀ {a b}, a ∈ ps → b ∈ ps → Conn e pre a b → BF.merge f low high a = BF.merge f low high b := fun ha hb q => by
      unfold BF.merge; rw [(M.cg _ ha _ hb).mpr q]
    rcases q with q | ⟨q, q'⟩ | ⟨q, q'⟩
    · exact st ha hb q
    · exact (st ha h1 q).trans (key.trans (st h2 hb q'))
    · exact (st ha h2 q).trans (key.symm.trans (st h1 hb q'))
  · unfold BF.merge
    split
    · exact lin
    · exact M.inn a ha
  · have fin : ∀ {v}, f v = v → v ≠ high → BF.merge f low high v = v := fun h n => by
      unfold BF.merge; rw [h, if_neg n]
    by_cases ea : f a = high
    · have z : BF.merge f low high a = low := if_pos ea
      rw [z]; exact fin fl hne
    · have z : BF.merge f low high a = f a := if_neg ea
      rw [z]; exact fin (M.idem a ha) ea
theorem moved_merge (nd : ps.Nodup) {low high : Str} (hne : low ≠ high) (hh : high ∈ ps) (fh : f high = high) (fl : f low = low) : moved ps (BF.merge f low high) = moved ps f + 1 := by
  unfold moved
  have e1 : (ps.filter fun p => decide (BF.merge f low high p ≠ p)) = ps.filter (pin (fun p => decide (f p ≠ p)) high) := by
    refine List.filter_congr fun p _ => ?_
    unfold BF.merge pin
    by_cases eh : p = high
    · subst eh; simp [fh, hne]
    · by_cases ep : f p = high
      · have : ¬ low = p := fun z => by rw [← z, fl] at ep; exact hne ep
        have n2 : ¬ high = p := fun z => eh z.symm
        simp [ep, this, n2, eh]
      · simp [ep, eh]
  rw [e1]
  exact crd_pin (E := ps) nd hh (by simp [fh])
/-- the sum that the walk keeps -/
theorem rk_skip {l : List Str} (h : Conn e pre (e t).1 (e t).2) : rkA (clW e) pre (t :: l) = rkA (clW e) (t :: pre) l := by
  conv => lhs; unfold rkA
  rw [if_pos (show clW e pre t from h)]; omega
theorem rk_more {l : List Str} (h : ¬ Conn e pre (e t).1 (e t).2) : rkA (clW e) pre (t :: l) = 1 + rkA (clW e) (t :: pre) l := by
  conv => lhs; unfold rkA
  rw [if_neg (show ¬ clW e pre t from h)]
end
theorem tri (a b : List Nat) (h : ¬ a < b) (n : a ≠ b) : b < a := by
  rcases List.le_iff_lt_or_eq.mp (List.not_lt.mp h) with q | q
  · exact q
  · exact absurd q.symm n
theorem str_ne {a b : Str} (h : a ≠ b) : a.cps.toList ≠ b.cps.toList := fun e => h (by
  cases a; cases b
  have : _ = _ := Array.toList_inj.mp e
  exact congrArg Str.mk this)
theorem two_ends {a b : Str} (h : a ≠ b) : ∃ lo hi : Str, (if b.cps.toList < a.cps.toList then b else a) = lo ∧ (if a.cps.toList < b.cps.toList then b else a) = hi ∧ lo ≠ hi ∧ ((a = lo ∧ b = hi) ∨ (a = hi ∧ b = lo)) := by
  by_cases q : a.cps.toList < b.cps.toList
  · refine ⟨a, b, ?_, if_pos q, h, .inl ⟨rfl, rfl⟩⟩
    rw [if_neg (List.lt_asymm q)]
  · refine ⟨b, a, ?_, if_neg q, fun e => h e.symm, .inr ⟨rfl, rfl⟩⟩
    rw [if_pos (tri _ _ q (str_ne h))]
/-! ### the walk -/
theorem ends_at : ∀ {es : List Tie} {t : Str}, t ∈ es.map (·.1) → ∃ e ∈ es, e.1 = t ∧ endsOf es t = e.2.2 ∧ valV (es.map fun e => ((Sum.inr e.1 : Key), V.ref e.2.1)) (Sum.inr t : Key) = some (.ref e.2.1)
  | e :: es, t, h => by
    by_cases q : e.1 = t
    · refine ⟨e, List.mem_cons_self, q, ?_, ?_⟩
      · unfold endsOf; rw [List.find?_cons_of_pos (by rw [q]; exact decide_eq_true rfl)]
      · exact valV_pos (congrArg Sum.inr q)
    · rw [List.map_cons, List.mem_cons] at h
      rcases h with h | h
      · exact absurd h.symm q
      · obtain ⟨d, h1, h2, h3, h4⟩ := ends_at h
        refine ⟨d, List.mem_cons_of_mem _ h1, h2, ?_, ?_⟩
        · rw [← h3]; unfold endsOf; rw [List.find?_cons_of_neg (by simp [q])]
        · show valV ((Sum.inr e.1, V.ref e.2.1) :: _) _ = _
          rw [valV_neg (fun z => q (Sum.inr.inj z))]; exact h4
theorem webF_known (kt ed : Addr) : (webF kt ed).lookup ("known" : Str) = some (.ref kt) := by
  unfold webF; rw [List.lookup_cons]; simp
theorem webF_ending (kt ed : Addr) : (webF kt ed).lookup ("ending" : Str) = some (.ref ed) := by
  unfold webF; rw [List.lookup_cons, List.lookup_cons]
  rw [show (("ending" : Str) == "known") = false from by decide +kernel]; simp
theorem WebAt.same {K : PySem.W.Frag} {H H' : Hp} {s : Addr} {ps : List Str} {es : List Tie} (S : Same H H') (h : WebAt K H s ps es) : WebAt K H' s ps es := by
  obtain ⟨⟨dx, kt, ed, h1, h2, h3⟩, h4, h5, h6, h7⟩ := h
  exact ⟨⟨dx, kt, ed, S _ _ h1, S _ _ h2, S _ _ h3⟩, fun e he => ⟨S _ _ (h4 e he).1, (h4 e he).2⟩, h5, h6, h7⟩
def spMarks (K : PySem.W.Frag) : Sp := fun vs H Q _ => ∃ (s l : Addr) (ps : List Str) (es : List Tie) (xs : List Str), vs = [.ref s, .ref l] ∧ WebAt K H s ps es ∧ SqT K H l (txs xs) ∧ xs.length ≤ 1000 ∧ (∀ x ∈ xs, x ∈ es.map (·.1)) ∧
  ∀ H' p (f : Str → Str), Same H H' → H p = none → H' p = some (.dK (dictF ps fun q => .str (f q))) → moved ps f = rk (clW (endsOf es)) xs → Q (.ref p) H'
theorem sc_Web_marks : FnScope ["self", "lot", "found", "tie", "one", "other", "low", "high", "place"] ["self", "lot"] (defScope s_Web_marks) := ⟨rfl, rfl, rfl, by decide +kernel, rfl, by decide +kernel, by decide +kernel⟩
theorem drop_at {α} {xs : List α} {i : Nat} {x : α} (h : xs[i]? = some x) : xs.drop i = x :: xs.drop (i + 1) := by
  obtain ⟨hi, e⟩ := List.getElem?_eq_some_iff.mp h
  rw [List.drop_eq_getElem_cons hi, e]
section
variable {P : Program} {w : World} {K : PySem.W.Frag} {mg : Str → Option Value} {base : Heap}
theorem ok_Web_marks (T : TX K mg) : FOk P w K mg base 1 ("Web", some "marks") ["self", "lot"] (spMarks K) := by
  refine T.fn 34 (d := d_Web_marks) rfl rfl rfl sc_Web_marks (fun vs H Q E h => ?_) (fun _ _ _ _ _ _ us hl => match us, hl with | [_, _], _ => rfl) (fun cdv A outer s H vs Q E hr h => ?_)
  · obtain ⟨a, l, ps, es, xs, rfl, _⟩ := h; rfl
  · obtain ⟨a, l, ps, es, xs, rfl, hw, hx, hz, hin, k⟩ := h
    have hu := hu_of hr
    have nd := sc_Web_marks.nd
    refine ⟨_, pss_cons (ps_setDc (i := 2) (own := [("place", 8)]) (g := gName 8) rfl nd rfl rfl (sw_trueD rfl rfl rfl rfl) (pi_tup (pe_fld (pv 0) rfl)) (blkOk_by (N := ["self", "lot", "found", "tie", "one", "other", "low", "high", "place"]) (sc := defScope s_Web_marks) (by decide +kernel)) (fun _ _ _ _ _ => pg_name (i := 8) nd rfl (Or.inl rfl))
        (fun _ _ _ _ _ => pts_nil) (fun _ _ _ _ _ => pv 8) (fun _ _ _ _ _ => pv 8))
      (pss_cons (ps_for PassesOwn.never rfl (pi_tup (pv 1)) (pg_name (i := 3) nd rfl (Or.inl rfl))
        (pss_cons (ps_par (i := 4) (j := 5) rfl nd rfl rfl (by decide) rfl rfl (pa_cons (pe_dget hu (pv 2) (pe_ix ix_tup (pe_dget hu (pe_fld (pv 0) rfl) (pv 3) (fun _ _ => rfl)) pe_int (fun _ _ => rfl)) (fun _ _ => rfl)) (pa_cons (pe_dget hu (pv 2) (pe_ix ix_tup (pe_dget hu (pe_fld (pv 0) rfl) (pv 3) (fun _ _ => rfl)) pe_int (fun _ _ => rfl)) (fun _ _ => rfl)) pa_nil)) rfl)
        (pss_one (ps_if (pt_cmpR op_ne (pv 4) (pv 5) (by rfl))
          (pss_cons (ps_par (i := 6) (j := 7) rfl nd rfl rfl (by decide) rfl rfl (pa_cons (pe_callB (call_min2T rfl) (by rfl) T.f_min (by decide +kernel) (pa_cons (pv 4) (pa_cons (pv 5) pa_nil))) (pa_cons (pe_callB (call_max2T rfl) (by rfl) T.f_max (by decide +kernel) (pa_cons (pv 4) (pa_cons (pv 5) pa_nil))) pa_nil)) rfl)
          (pss_one (ps_for PassesOwn.never rfl (pi_tup (pe_fld (pv 0) rfl)) (pg_name (i := 8) nd rfl (Or.inl rfl))
            (pss_one (ps_if (pt_cmpR op_eq (pe_dget hu (pv 2) (pv 8) (fun _ _ => rfl)) (pv 7) (by rfl)) (pss_one (ps_dput hu (pv 2) (pv 8) (pv 6) rfl)) pss_nil)))))
          pss_nil))))
      (pss_one (ps_ret (pv 2)))), ?_⟩
    obtain ⟨dx, kt, ed, ha, hk, he⟩ := hw.ob
    refine ⟨_, rfl, a, _, dx, _, _, rfl, ha, T.cl_Web, T.na_Web_known, webF_known _ _, kt, rfl, ⟨_, SqT.of hk⟩, fun D hD => ?_⟩
    have ndp : ps.Nodup := hw.nd
    have few := hw.few
    refine dcK (H0 := H) (src_tup fun H' r => SqT.of (r _ _ hk)) (fun _ => true) (fun i => .inr (ps.getD i e0)) (fun i v _ => v = .str (ps.getD i e0)) (by simp; omega) (fun _ _ _ _ h _ => h) (fun _ _ _ _ _ h _ => h) (fun i j hji hi _ _ q => ?_) (fun x => rfl) hD (same_new hD) ?_ ?_ ?_
    · have hi' : i < ps.length := by simpa using hi
      have e := Sum.inr.inj q
      rw [List.getD_eq_getElem?_getD, List.getD_eq_getElem?_getD, List.getElem?_eq_getElem hi', List.getElem?_eq_getElem (by omega)] at e
      have := (List.getElem_inj ndp).mp e
      omega
    · intro i x H1 Qb hi r q
      exact q H1 (Same.refl _)
    · intro i x H1 Qv hi _ r q
      obtain ⟨y, hy, rfl⟩ := txs_at hi
      refine ⟨_, rfl, _, rfl, ?_⟩
      rw [← getD_at (d := e0) hy]
      exact q _ H1 (Same.refl _) rfl
    · intro H1 kvs s1 hd pk
      have e1 : kvs = dictF ps fun q => .str (id q) := by
        have := Paired.fn (Paired.imp (G := fun i p => p = ((Sum.inr (ps.getD i e0) : Key), V.str (ps.getD i e0))) (fun i p h => Prod.ext h.1 h.2) pk)
        rw [this, List.length_map, picks_all]
        exact map_range' (fun p : Str => ((Sum.inr p : Key), V.str p)) e0 ps
      subst e1
      refine ⟨_, rfl, l, rfl, ⟨_, same_seqT s1 hx⟩, ?_⟩
      refine forJ (H0 := H) (src_tup fun H' r => same_seqT r hx) (fun i σ H1 => (∃ o3 o4 o5 o6 o7 o8, σ = [some (.ref a), some (.ref l), some (.ref D), o3, o4, o5, o6, o7, o8]) ∧ Same H H1 ∧
        ∃ f, H1 D = some (.dK (dictF ps fun q => .str (f q))) ∧ MarkInv (endsOf es) ps (xs.take i).reverse f ∧ moved ps f + rkA (clW (endsOf es)) (xs.take i).reverse (xs.drop i) = rk (clW (endsOf es)) xs) (fun i σ H1 p => p.2.1) ?_ ?_ ?_
      · refine ⟨⟨_, _, _, _, _, _, rfl⟩, s1, id, hd, MarkInv.start _ _, ?_⟩
        have : moved ps id = 0 := by
          unfold moved
          rw [List.length_eq_zero_iff, List.filter_eq_nil_iff]
          intro p _
          simp
        rw [this, List.drop_zero]
        exact Nat.zero_add _
      · rintro σ H2 ⟨⟨o3, o4, o5, o6, o7, o8, rfl⟩, s2, f, h2, M, hm⟩
        refine ⟨_, rfl, ?_⟩
        rw [List.length_map, List.drop_length, List.take_length] at hm
        exact k H2 D f s2 hD h2 hm
      · rintro i x σ H2 hi ⟨⟨o3, o4, o5, o6, o7, o8, rfl⟩, s2, f, h2, M, hm⟩ N hN
        obtain ⟨t, ht, rfl⟩ := txs_at hi
        obtain ⟨e, hes, het, hee, hval⟩ := ends_at (hin t (List.mem_of_getElem? ht))
        obtain ⟨htup, hp1, hp2⟩ := hw.tie e hes
        have htup2 := s2 _ _ htup
        have en1 : (endsOf es t).1 = e.2.2.1 := by rw [hee]
        have en2 : (endsOf es t).2 = e.2.2.2 := by rw [hee]
        have g1 := DGet.k (k := .inr t) (s2 _ _ he)
        rw [hval] at g1
        have g2 := DGet.k (k := .inr e.2.2.1) h2
        rw [dictF_val hp1] at g2
        have g3 := DGet.k (k := .inr e.2.2.2) h2
        rw [dictF_val hp2] at g3
        refine ⟨_, rfl, _, rfl, a, _, dx, _, _, rfl, s2 _ _ ha, T.cl_Web, T.na_Web_ending, webF_ending _ _, _, rfl, ed, _, rfl, g1, e.2.1, _, 0, _, rfl, rfl, SqT.of htup2, atI_nat (j := 0) rfl, D, _, rfl, g2,
          _, rfl, _, rfl, a, _, dx, _, _, rfl, s2 _ _ ha, T.cl_Web, T.na_Web_ending, webF_ending _ _, _, rfl, ed, _, rfl, g1, e.2.1, _, 1, _, rfl, rfl, SqT.of htup2, atI_nat (j := 1) rfl, D, _, rfl, g3, _, _, rfl, ?_⟩
        refine ⟨_, rfl, _, rfl, rfl, _, rfl, ?_⟩
        have hv : (V.str (f e.2.2.1) = V.str (f e.2.2.2)) ↔ f e.2.2.1 = f e.2.2.2 := ⟨fun q => by injection q, fun q => by rw [q]⟩
        have tk1 : xs.take (i + 1) = xs.take i ++ [t] := take_snoc ht
        have rv1 : (xs.take (i + 1)).reverse = t :: (xs.take i).reverse := by rw [tk1, List.reverse_append]; rfl
        rw [drop_at ht] at hm
        by_cases q : f e.2.2.1 = f e.2.2.2
        · rw [decide_eq_true (hv.mpr q)]
          refine iteF (hN _ _ ⟨⟨_, _, _, _, _, _, rfl⟩, s2, f, h2, ?_, ?_⟩)
          · rw [rv1]; exact M.skip (by rw [en1]; exact hp1) (by rw [en2]; exact hp2) (by rw [en1, en2]; exact q)
          · rw [rv1, ← hm, rk_skip]
            rw [en1, en2]
            exact (M.cg _ hp1 _ hp2).mp q
        · rw [decide_eq_false (fun z => q (hv.mp z))]
          refine iteT ?_
          obtain ⟨lo, hi, elo, ehi, hne, hl⟩ := two_ends q
          refine ⟨_, rfl, _, rfl, _, _, rfl, ⟨_, rfl, _, rfl, _, _, rfl, _, _, rfl, ?_⟩⟩
          rw [elo, ehi]
          have fhi : hi ∈ ps ∧ f hi = hi := by
            rcases hl with ⟨_, z⟩ | ⟨z, _⟩
            · rw [← z]; exact ⟨M.inn _ hp2, M.idem _ hp2⟩
            · rw [← z]; exact ⟨M.inn _ hp1, M.idem _ hp1⟩
          have flo : f lo = lo := by
            rcases hl with ⟨z, _⟩ | ⟨_, z⟩
            · rw [← z]; exact M.idem _ hp1
            · rw [← z]; exact M.idem _ hp2
          refine ⟨_, rfl, a, _, dx, _, _, rfl, s2 _ _ ha, T.cl_Web, T.na_Web_known, webF_known _ _, kt, rfl, ⟨_, SqT.of (s2 _ _ hk)⟩, ?_⟩
          refine forJ (H0 := H) (src_tup fun H' r => SqT.of (r _ _ hk)) (fun j σ H3 => (∃ o8, σ = [some (.ref a), some (.ref l), some (.ref D), some (.str t), some (.str (f e.2.2.1)), some (.str (f e.2.2.2)), some (.str lo), some (.str hi), o8]) ∧ Same H H3 ∧
            H3 D = some (.dK (dictF ps fun q => .str (if mem (ps.take j) q = true then BF.merge f lo hi q else f q)))) (fun i σ H1 p => p.2.1) ?_ ?_ ?_
          · refine ⟨⟨_, rfl⟩, s2, ?_⟩
            rw [h2]
            exact congrArg (fun z => some (HO.dK z)) (dictF_congr fun p _ => rfl)
          · rintro σ3 H3 ⟨⟨p8, rfl⟩, s3, h3⟩
            refine hN _ _ ⟨⟨_, _, _, _, _, _, rfl⟩, s3, BF.merge f lo hi, ?_, ?_, ?_⟩
            · rw [h3]
              refine congrArg (fun z => some (HO.dK z)) (dictF_congr fun p hp => ?_)
              rw [List.length_map, List.take_length, if_pos (mem_t.mpr hp)]
            · rw [rv1]
              exact M.merge (by rw [en1]; exact hp1) (by rw [en2]; exact hp2) hne (by rw [en1, en2]; exact hl)
            · rw [rv1, moved_merge ndp hne fhi.1 fhi.2 flo, ← hm, rk_more]
              · omega
              · rw [en1, en2]
                exact fun z => q ((M.cg _ hp1 _ hp2).mpr z)
          · rintro j x σ3 H3 hj ⟨⟨p8, rfl⟩, s3, h3⟩ N' hN'
            obtain ⟨y, hy, rfl⟩ := txs_at hj
            have hyp : y ∈ ps := List.mem_of_getElem? hy
            have ny := not_in_take ndp hy
            have g4 := DGet.k (k := .inr y) h3
            rw [dictF_val hyp, if_neg (fun z => ny (mem_t.mp z))] at g4
            refine ⟨_, rfl, _, rfl, D, _, rfl, g4, _, rfl, rfl, _, rfl, ?_⟩
            have hv2 : (V.str (f y) = V.str hi) ↔ f y = hi := ⟨fun q => by injection q, fun q => by rw [q]⟩
            have grow : ∀ p ∈ ps, p ≠ y → mem (ps.take (j + 1)) p = mem (ps.take j) p := fun p _ np => by
              rw [take_snoc hy]
              cases e1 : mem (ps.take j) p with
              | true => exact mem_t.mpr (List.mem_append_left _ (mem_t.mp e1))
              | false =>
                cases e2 : mem (ps.take j ++ [y]) p with
                | false => rfl
                | true =>
                  rcases List.mem_append.mp (mem_t.mp e2) with z | z
                  · rw [mem_t.mpr z] at e1; cases e1
                  · exact absurd (List.mem_singleton.mp z) np
            have at_y : mem (ps.take (j + 1)) y = true := mem_t.mpr (by rw [take_snoc hy]; exact List.mem_append_right _ List.mem_cons_self)
            by_cases z : f y = hi
            · rw [decide_eq_true (hv2.mpr z)]
              refine iteT ⟨_, rfl, _, rfl, _, rfl, D, _, rfl, DPut.k (k := .inr y) h3 (by rw [List.length_map, sizeLine_eq]; omega), ?_⟩
              refine hN' _ _ ⟨⟨_, rfl⟩, same_put s3 hD, ?_⟩
              rw [upd_same, dictF_put hyp]
              refine congrArg (fun z => some (HO.dK z)) (dictF_congr fun p hp => ?_)
              by_cases ep : p = y
              · subst ep
                rw [if_pos rfl, if_pos at_y]
                unfold BF.merge
                rw [if_pos z]
              · rw [if_neg ep, grow p hp ep]
            · rw [decide_eq_false (fun q => z (hv2.mp q))]
              refine iteF (hN' _ _ ⟨⟨_, rfl⟩, s3, ?_⟩)
              rw [h3]
              refine congrArg (fun z => some (HO.dK z)) (dictF_congr fun p hp => ?_)
              by_cases ep : p = y
              · subst ep
                rw [if_neg (fun z => ny (mem_t.mp z)), if_pos at_y]
                unfold BF.merge
                rw [if_neg z]
              · rw [grow p hp ep]
end
end BF
set_option Elab.async false
set_option linter.all false
set_option maxRecDepth 100000
set_option maxHeartbeats 4000000
/-! count_free of webs and of listed bases. -/
namespace BF
open PySem PySem.Spec PyProof.Rows L2
theorem paired_at {β γ : Type} {F : β → γ → Prop} : ∀ {xs : List β} {ys : List γ} {i : Nat} {x : β}, Paired F xs ys → xs[i]? = some x → ∃ y, ys[i]? = some y ∧ F x y
  | _, _, _, _, .nil, h => by cases h
  | _, _, 0, _, .cons a t, h => by cases h; exact ⟨_, rfl, a⟩
  | _, _, i + 1, _, .cons a t, h => by
    rw [List.getElem?_cons_succ] at h
    obtain ⟨y, h1, h2⟩ := paired_at t h
    exact ⟨y, by rw [List.getElem?_cons_succ]; exact h1, h2⟩
def spWebCF (K : PySem.W.Frag) : Sp := fun vs H Q _ => ∃ (s l : Addr) (ps : List Str) (es : List Tie) (xs : List Str), vs = [.ref s, .ref l] ∧ WebAt K H s ps es ∧ SqT K H l (txs xs) ∧ xs.length ≤ 1000 ∧ (∀ x ∈ xs, x ∈ es.map (·.1)) ∧
  ∀ H', Same H H' → Q (.int (rk (clW (endsOf es)) xs)) H'
theorem sc_Web_count_free : FnScope ["self", "lot", "found", "place"] ["self", "lot"] (defScope s_Web_count_free) := ⟨rfl, rfl, rfl, by decide +kernel, rfl, by decide +kernel, by decide +kernel⟩
def spListedCF (K : PySem.W.Frag) : Sp := fun vs H Q _ => ∃ (s l : Addr) (Bs : List (List Str)) (xs : List Str) (n : Nat), vs = [.ref s, .ref l] ∧ ListAt K H s Bs ∧ SqT K H l (txs xs) ∧ xs.length ≤ 1000 ∧
  (∃ B ∈ Bs, (xs.filter (mem B)).length = n) ∧ (∀ B ∈ Bs, (xs.filter (mem B)).length ≤ n) ∧ ∀ H', Same H H' → Q (.int n) H'
theorem sc_Listed_count_free : FnScope ["self", "lot", "one", "thing"] ["self", "lot"] (defScope s_Listed_count_free) := ⟨rfl, rfl, rfl, by decide +kernel, rfl, by decide +kernel, by decide +kernel⟩
theorem listF_lots (l : Addr) : (listF l).lookup ("lots" : Str) = some (.ref l) := by
  unfold listF; rw [List.lookup_cons]; simp
theorem webF_no (kt ed : Addr) {m : Str} (h1 : (m == ("known" : Str)) = false) (h2 : (m == ("ending" : Str)) = false) : (webF kt ed).lookup m = none := by
  unfold webF; rw [List.lookup_cons, List.lookup_cons, h1, h2]; rfl
section
variable {X : Cx}
def rLenSq (K : PySem.W.Frag) : List V → Hp → VK → Prop := fun xs H Q => ∃ p ys, xs = [.ref p] ∧ (SqL K H p ys ∨ SqT K H p ys) ∧ Q (.int ys.length) H
theorem crLen (K : PySem.W.Frag) (h : X.K = K := by rfl) : CallR X (.builtin "len") (rLenSq K) := by subst h; exact call_len_seq
theorem piTup (K : PySem.W.Frag) {tg l : Expr} {tl : TE} (hl : PE X l tl) (h : X.K = K := by rfl) : PI X tg l (iTup K tl) := by subst h; exact pi_tup hl
theorem piList (K : PySem.W.Frag) {tg l : Expr} {tl : TE} (hl : PE X l tl) (h : X.K = K := by rfl) : PI X tg l (iList K tl) := by subst h; exact pi_list hl
theorem peFld (K : PySem.W.Frag) {e : Expr} {ta : TE} {f : Str} {pos : Pos} (he : PE X e ta) (hb : attributeBase e f X.env (eval e X.env) = eval e X.env) (h : X.K = K := by rfl) : PE X (.Attribute e f pos) (tFld K ta f) := by subst h; exact pe_fld he hb
end
def scL1 : Scope := { kind := .function, names := [(".0", .local), ("one", .cell), ("len", .globalImplicit), ("lot", .cell)], isGenerator := false, isCoroutine := false }
section
variable {P : Program} {w : World} {K : PySem.W.Frag} {mg : Str → Option Value} {base : Heap}
theorem ok_Web_count_free (T : TX K mg) : FOk P w K mg base 2 ("Web", some "count_free") ["self", "lot"] (spWebCF K) := by
  refine T.fn 35 (d := d_Web_count_free) rfl rfl rfl sc_Web_count_free (fun vs H Q E h => ?_) (fun _ _ _ _ _ _ us hl => match us, hl with | [_, _], _ => rfl) (fun cdv A outer s H vs Q E hr h => ?_)
  · obtain ⟨a, l, ps, es, xs, rfl, _⟩ := h; rfl
  · obtain ⟨a, l, ps, es, xs, rfl, hw, hx, hz, hin, k⟩ := h
    have hu := hu_of hr
    have nd := sc_Web_count_free.nd
    refine ⟨_, pss_cons (ps_set (i := 2) nd rfl (Or.inr rfl) (pe_mt (pv 0) T.cl_Web T.mt_Web_marks (ok_Web_marks T) hr (pa_cons (pv 1) pa_nil)))
      (pss_one (ps_ret (pe_callB call_len_seq (by rfl) T.f_len (by decide +kernel) (pa_cons
        (pe_lc (own := [("place", 3)]) (g := gName 3) rfl nd (pi_tup (pe_fld (pv 0) rfl)) (blkOk_by (N := ["self", "lot", "found", "place"]) (sc := defScope s_Web_count_free) (by decide +kernel)) (fun _ _ _ _ _ => pg_name (i := 3) nd rfl (Or.inl rfl))
          (fun _ _ _ _ _ => pts_one (pt_cmpR op_ne (pe_dget hu (pv 2) (pv 3) (fun _ _ => rfl)) (pv 3) (by rfl))) (fun _ _ _ _ _ => pv 3)) pa_nil)))), ?_⟩
    obtain ⟨dx, kt, ed, ha, hk, he⟩ := hw.ob
    refine ⟨_, rfl, a, dx, _, rfl, ha, ?_, _, rfl, a, l, ps, es, xs, rfl, hw, hx, hz, hin, fun H1 D f s1 hD h1 hm => ?_⟩
    · exact webF_no _ _ (by decide +kernel) (by decide +kernel)
    · refine ⟨_, rfl, a, _, dx, _, _, rfl, s1 _ _ ha, T.cl_Web, T.na_Web_known, webF_known _ _, kt, rfl, ⟨_, SqT.of (s1 _ _ hk)⟩, fun L hL => ?_⟩
      refine lcV (H0 := H1) (same_frm H1) (src_tup fun H' r => SqT.of (r _ _ (s1 _ _ hk))) (fun i => decide (f (ps.getD i e0) ≠ ps.getD i e0)) (fun i => .str (ps.getD i e0)) (by have := hw.few; simp; omega) (fun x => rfl) hL (same_new hL) ?_ ?_ ?_
      · intro i x H2 Qb hi r q
        obtain ⟨y, hy, rfl⟩ := txs_at hi
        have g4 := DGet.k (k := .inr y) (r _ _ h1)
        rw [dictF_val (List.mem_of_getElem? hy)] at g4
        refine ⟨_, rfl, _, rfl, D, _, rfl, g4, _, rfl, rfl, _, rfl, ?_⟩
        have : (!decide (V.str (f y) = V.str y)) = decide (f (ps.getD i e0) ≠ ps.getD i e0) := by
          rw [getD_at (d := e0) hy]
          by_cases e : f y = y
          · rw [e]; simp
          · rw [decide_eq_false (fun z => e (by injection z)), decide_eq_true e]; rfl
        rw [this]
        exact q H2 (Same.refl _)
      · intro i x H2 Qv hi _ r q
        obtain ⟨y, hy, rfl⟩ := txs_at hi
        refine ⟨_, rfl, ?_⟩
        rw [← getD_at (d := e0) hy]
        exact q H2 (Same.refl _)
      · intro H2 r hd
        refine ⟨L, _, rfl, .inl (SqL.of hd), ?_⟩
        have e : (picks ps.length fun i => decide (f (ps.getD i e0) ≠ ps.getD i e0)).length = rk (clW (endsOf es)) xs := by
          have := congrArg List.length (picks_filter V.str e0 (fun p => decide (f p ≠ p)) ps)
          rw [List.length_map, List.length_map] at this
          rw [this]; exact hm
        rw [List.length_map, List.length_map, e]
        exact k H2 (s1.trans r)
theorem ok_Listed_count_free (T : TX K mg) : FOk P w K mg base 1 ("Listed", some "count_free") ["self", "lot"] (spListedCF K) := by
  refine T.fn 14 (d := d_Listed_count_free) rfl rfl rfl sc_Listed_count_free (fun vs H Q E h => ?_) (fun _ _ _ _ _ _ us hl => match us, hl with | [_, _], _ => rfl) (fun cdv A outer s H vs Q E hr h => ?_)
  · obtain ⟨a, l, ps, es, xs, rfl, _⟩ := h; rfl
  · obtain ⟨a, l, Bs, xs, n, rfl, hw, hx, hz, hn1, hn2, k⟩ := h
    have nd := sc_Listed_count_free.nd
    refine ⟨_, pss_one (ps_ret (pe_callB (cr_max rfl) (by rfl) T.f_max (by decide +kernel) (pa_cons
        (pe_lc (own := [("one", 2)]) (g := gName 2) rfl nd (pi_list (pe_fld (pv 0) rfl)) (blkOk_by (N := ["self", "lot", "one", "thing"]) (sc := defScope s_Listed_count_free) (by decide +kernel)) (fun _ _ _ _ _ => pg_name (i := 2) nd rfl (Or.inr rfl))
          (fun _ _ _ _ _ => pts_nil) (fun _ _ _ _ _ => pe_callB (crLen K) (by rfl) T.f_len (by decide +kernel) (pa_cons
            (pe_lc (own := [("thing", 3)]) (g := gName 3) rfl nd (piTup K (pv 1)) (blkOk_by (N := ["self", "lot", "one", "thing"]) (sc := scL1) (by decide +kernel)) (fun _ _ _ _ _ => pg_name (i := 3) nd rfl (Or.inl rfl))
              (fun _ _ _ _ _ => pts_one (pt_cmpR (opIn K) (pv 3) (pv 2) (by rfl))) (fun _ _ _ _ _ => pv 3)) pa_nil))) pa_nil))), ?_⟩
    obtain ⟨dx, lv, vs, ha, hl, hp⟩ := hw.ob
    refine ⟨_, rfl, a, _, dx, _, _, rfl, ha, T.cl_Listed, T.na_Listed_lots, listF_lots _, lv, rfl, ⟨_, SqL.of hl⟩, fun L hL => ?_⟩
    have hlen : vs.length = Bs.length := Paired.length hp
    have few := hw.few
    refine lcV (H0 := H) (same_frm H) (src_list fun H' r => SqL.of (r _ _ hl)) (fun _ => true) (fun i => .int ((xs.filter (mem (Bs.getD i []))).length : Nat)) (by omega) (fun x => rfl) hL (same_new hL) ?_ ?_ ?_
    · intro i x H2 Qb hi r q
      exact q H2 (Same.refl _)
    · intro i x H2 Qv hi _ r q
      obtain ⟨B, hB, hv⟩ := paired_at hp hi
      obtain ⟨b, rfl, hb⟩ := hv
      refine ⟨_, rfl, l, rfl, ⟨_, same_seqT r hx⟩, fun M hM => ?_⟩
      refine lcV (H0 := H2) (same_frm H2) (src_tup fun H' r' => same_seqT (r.trans r') hx) (fun j => mem B (xs.getD j e0)) (fun j => .str (xs.getD j e0)) (by simp; omega) (fun x => rfl) hM (same_new hM) ?_ ?_ ?_
      · intro j y H3 Qb hj r3 q3
        obtain ⟨s, hs, rfl⟩ := txs_at hj
        refine ⟨_, rfl, _, rfl, b, _, rfl, .inr (SqT.of (r3 _ _ (r _ _ hb))), rfl, flat_txs _, _, rfl, ?_⟩
        rw [if_neg (by decide), inV_txs, ← getD_at (d := e0) hs]
        exact q3 H3 (Same.refl _)
      · intro j y H3 Qw hj _ r3 q3
        obtain ⟨s, hs, rfl⟩ := txs_at hj
        refine ⟨_, rfl, ?_⟩
        rw [← getD_at (d := e0) hs]
        exact q3 H3 (Same.refl _)
      · intro H3 r3 hd
        refine ⟨M, _, rfl, .inl (SqL.of hd), ?_⟩
        have e : (picks xs.length fun j => mem B (xs.getD j e0)).length = (xs.filter (mem B)).length := by
          have := congrArg List.length (picks_filter V.str e0 (mem B) xs)
          rw [List.length_map, List.length_map] at this
          exact this
        rw [List.length_map, List.length_map, e, ← getD_at (d := []) hB]
        exact q H3 r3
    · intro H2 r hd
      have e : (picks vs.length fun _ => true).map (fun i => V.int ((xs.filter (mem (Bs.getD i []))).length : Nat)) = (Bs.map fun B => (((xs.filter (mem B)).length : Nat) : Int)).map V.int := by
        rw [picks_all, hlen, List.map_map]
        exact map_range' (fun B => V.int (((xs.filter (mem B)).length : Nat) : Int)) [] Bs
      rw [e] at hd
      refine ⟨L, _, rfl, SqL.of hd, ?_, fun m hm hmax => ?_⟩
      · rw [List.length_map]; exact List.length_pos_iff.mpr hw.ne
      · obtain ⟨B, hB, hBn⟩ := hn1
        obtain ⟨C, hC, hCm⟩ := List.mem_map.mp hm
        have h1 := hn2 C hC
        have h2 := hmax _ (List.mem_map_of_mem (f := fun B => (((xs.filter (mem B)).length : Nat) : Int)) hB)
        have : m = (n : Int) := by omega
        rw [this]
        exact k H2 r
end
end BF
set_option Elab.async false
set_option linter.all false
set_option maxRecDepth 100000
set_option maxHeartbeats 4000000
/-! Sorted texts. -/
namespace BF
open PySem PySem.Spec PyProof.Rows L2
abbrev Le (a b : Str) : Prop := ¬ b.cps.toList < a.cps.toList
theorem le_tr {a b c : Str} (h1 : Le a b) (h2 : Le b c) : Le a c := by
  have h1 : a.cps.toList ≤ b.cps.toList := List.not_lt.mp h1
  have h2 : b.cps.toList ≤ c.cps.toList := List.not_lt.mp h2
  exact List.not_lt.mpr (List.le_trans h1 h2)
theorem le_anti {a b : Str} (h1 : Le a b) (h2 : Le b a) : a = b := by
  apply Classical.byContradiction
  intro n
  exact h1 (tri _ _ h2 (str_ne n))
theorem rising_pw : ∀ (p : Str) (l : List Str), risingS p l = true → (p :: l).Pairwise Le
  | p, [], _ => List.pairwise_singleton ..
  | p, x :: r, h => by
    unfold risingS at h
    rw [Bool.and_eq_true, Bool.not_eq_true'] at h
    obtain ⟨h1, h2⟩ := h
    rw [ltCps_eq] at h1
    have le1 : Le p x := of_decide_eq_false h1
    have ih := rising_pw x r h2
    refine List.pairwise_cons.mpr ⟨fun y hy => ?_, ih⟩
    rcases List.mem_cons.mp hy with rfl | hy
    · exact le1
    · exact le_tr le1 ((List.pairwise_cons.mp ih).1 y hy)
theorem sorted_pw : ∀ {l : List Str}, sortedS l = true → l.Pairwise Le
  | [], _ => List.Pairwise.nil
  | x :: r, h => rising_pw x r h
theorem pw_sorted {l : List Str} (h : l.Pairwise Le) : sortedS l = true := sortedS_of_pairwise l (h.imp fun {a b} q => by rw [ltCps_eq]; exact decide_eq_false q)
theorem sorted_sub {l m : List Str} (s : l.Sublist m) (h : sortedS m = true) : sortedS l = true := pw_sorted ((sorted_pw h).sublist s)
theorem sorted_eq {l m : List Str} (p : l.Perm m) (h1 : sortedS l = true) (h2 : sortedS m = true) : l = m :=
  List.Perm.eq_of_pairwise (le := Le) (fun a b _ _ h1 h2 => le_anti h1 h2) (sorted_pw h1) (sorted_pw h2) p
end BF
set_option Elab.async false
set_option linter.all false
set_option maxRecDepth 100000
set_option maxHeartbeats 4000000
/-! rank_of and the sources that rest on families. -/
namespace BF
open PySem PySem.Spec PyProof.Rows L2
def spRank (K : PySem.W.Frag) (n : Nat) : Sp := fun vs H Q _ => ∃ (Γ : Gh) (a l : Addr) (i : FInfo) (xs : List Str), vs = [.ref a, .ref l] ∧ Good K Γ H ∧ Γ a = some i ∧ i.dep < n ∧ H l = some (.tup (txs xs)) ∧ xs.Sublist i.E ∧
  ∀ H', Rg Γ H H' → Q (.int (i.r xs)) H'
def spShortCF (K : PySem.W.Frag) (n : Nat) : Sp := fun vs H Q _ => ∃ (Γ : Gh) (s dx a l : Addr) (c : Nat) (j : FInfo) (xs : List Str), vs = [.ref s, .ref l] ∧ H s = some (.ins (He.ga K "Short") dx (shortF a c)) ∧ Good K Γ H ∧ Γ a = some j ∧ j.dep < n ∧ H l = some (.tup (txs xs)) ∧ xs.Sublist j.E ∧
  ∀ H', Rg Γ H H' → Q (.int ((min c (j.r xs) : Nat) : Int)) H'
def spJoinedCF (K : PySem.W.Frag) (n : Nat) : Sp := fun vs H Q _ => ∃ (Γ : Gh) (s dx a b l : Addr) (j k : FInfo) (E xs : List Str), vs = [.ref s, .ref l] ∧ H s = some (.ins (He.ga K "Joined") dx (joinF a b)) ∧ Good K Γ H ∧ Γ a = some j ∧ Γ b = some k ∧ j.dep < n ∧ k.dep < n ∧ H l = some (.tup (txs xs)) ∧ xs.Sublist E ∧ Side E j.E k.E ∧ E.length ≤ 1000 ∧
  ∀ H', Rg Γ H H' → Q (.int ((rSum j.E k.E j.r k.r xs : Nat) : Int)) H'
def spRenCF (K : PySem.W.Frag) (n : Nat) : Sp := fun vs H Q _ => ∃ (Γ : Gh) (s dx a o l : Addr) (j : FInfo) (f : Str → Str) (E xs : List Str), vs = [.ref s, .ref l] ∧ H s = some (.ins (He.ga K "Renamed") dx (renF a o)) ∧ Good K Γ H ∧ Γ a = some j ∧ j.dep < n ∧ H l = some (.tup (txs xs)) ∧ xs.Sublist E ∧
  H o = some (.dK (j.E.map fun x => (.inr (f x), .str x))) ∧ E.Perm (j.E.map f) ∧ E.Nodup ∧ (∀ x ∈ j.E, ∀ y ∈ j.E, f x = f y → x = y) ∧
  ∀ H', Rg Γ H H' → Q (.int ((rRen j.E j.r f xs : Nat) : Int)) H'
theorem sc_Family_rank_of : FnScope ["self", "lot"] ["self", "lot"] (defScope s_Family_rank_of) := ⟨rfl, rfl, rfl, by decide +kernel, rfl, by decide +kernel, by decide +kernel⟩
theorem sc_Short_count_free : FnScope ["self", "lot"] ["self", "lot"] (defScope s_Short_count_free) := ⟨rfl, rfl, rfl, by decide +kernel, rfl, by decide +kernel, by decide +kernel⟩
theorem sc_Joined_count_free : FnScope ["self", "lot", "found", "family", "thing"] ["self", "lot"] (defScope s_Joined_count_free) := ⟨rfl, rfl, rfl, by decide +kernel, rfl, by decide +kernel, by decide +kernel⟩
theorem sc_Renamed_count_free : FnScope ["self", "lot", "name"] ["self", "lot"] (defScope s_Renamed_count_free) := ⟨rfl, rfl, rfl, by decide +kernel, rfl, by decide +kernel, by decide +kernel⟩
theorem lk2 {f g m : Str} {x y : V} (h1 : (m == f) = false) (h2 : (m == g) = false) : ([(f, x), (g, y)] : List (Str × V)).lookup m = none := by
  rw [List.lookup_cons, List.lookup_cons, h1, h2]; rfl
theorem lk1 {f m : Str} {x : V} (h1 : (m == f) = false) : ([(f, x)] : List (Str × V)).lookup m = none := by
  rw [List.lookup_cons, h1]; rfl
theorem lk2a {f g : Str} {x y : V} : ([(f, x), (g, y)] : List (Str × V)).lookup f = some x := by
  rw [List.lookup_cons]; simp
theorem lk2b {f g : Str} {x y : V} (h : (g == f) = false) : ([(f, x), (g, y)] : List (Str × V)).lookup g = some y := by
  rw [List.lookup_cons, List.lookup_cons, h]; simp
section
variable {P : Program} {w : World} {K : PySem.W.Frag} {mg : Str → Option Value} {base : Heap}
theorem ok_Short_count_free (T : TX K mg) {n lv : Nat} (R : FOk P w K mg base lv ("Family", some "rank_of") ["self", "lot"] (spRank K n)) : FOk P w K mg base (lv + 1) ("Short", some "count_free") ["self", "lot"] (spShortCF K n) := by
  refine T.fn 40 (d := d_Short_count_free) rfl rfl rfl sc_Short_count_free (fun vs H Q E h => ?_) (fun _ _ _ _ _ _ us hl => match us, hl with | [_, _], _ => rfl) (fun cdv A outer s H vs Q E hr h => ?_)
  · obtain ⟨Γ, s, dx, a, l, c, j, xs, rfl, _⟩ := h; rfl
  · obtain ⟨Γ, s, dx, a, l, c, j, xs, rfl, hs, G, g, hd, hl, hx, k⟩ := h
    refine ⟨_, pss_one (ps_ret (pe_callB (call_min2 rfl) (by rfl) T.f_min (by decide +kernel) (pa_cons (pe_fld (pv 0) rfl) (pa_cons (pe_mt (pe_fld (pv 0) rfl) T.cl_Family T.mt_Family_rank_of R hr (pa_cons (pv 1) pa_nil)) pa_nil)))), ?_⟩
    obtain ⟨dx2, hob⟩ := (G.fam a j g).ob
    refine ⟨_, rfl, s, _, dx, _, _, rfl, hs, T.cl_Short, T.na_Short_cap, lk2b (by decide +kernel), _, rfl, s, _, dx, _, _, rfl, hs, T.cl_Short, T.na_Short_inner, lk2a, a, dx2, _, rfl, hob, famF_no _ _ _ (by decide +kernel) (by decide +kernel) (by decide +kernel), _, rfl, ?_⟩
    refine ⟨Γ, a, l, j, xs, rfl, G, g, hd, hl, hx, fun H1 r1 => ⟨_, _, rfl, ?_⟩⟩
    have e : (if ((j.r xs : Nat) : Int) < ((c : Nat) : Int) then ((j.r xs : Nat) : Int) else ((c : Nat) : Int)) = ((min c (j.r xs) : Nat) : Int) := by
      by_cases q : j.r xs < c
      · rw [if_pos (by omega), Nat.min_eq_right (by omega)]
      · rw [if_neg (by omega), Nat.min_eq_left (by omega)]
    rw [e]
    exact k H1 r1
theorem ok_Joined_count_free (T : TX K mg) {n lv : Nat} (R : FOk P w K mg base lv ("Family", some "rank_of") ["self", "lot"] (spRank K n)) (hlv : 1 ≤ lv) : FOk P w K mg base (lv + 1) ("Joined", some "count_free") ["self", "lot"] (spJoinedCF K n) := by
  refine T.fn 38 (d := d_Joined_count_free) rfl rfl rfl sc_Joined_count_free (fun vs H Q E h => ?_) (fun _ _ _ _ _ _ us hl => match us, hl with | [_, _], _ => rfl) (fun cdv A outer s H vs Q E hr h => ?_)
  · obtain ⟨Γ, s, dx, a, b, l, j, k, E, xs, rfl, _⟩ := h; rfl
  · obtain ⟨Γ, s, dx, a, b, l, j, k, E', xs, rfl, hs, G, ga, gb, hda, hdb, hl, hx, side, hz, kk⟩ := h
    have nd := sc_Joined_count_free.nd
    obtain ⟨fd, FI, bI, _⟩ := (ok_Family_contains (P := P) (w := w) (base := base) T).ex
    refine ⟨_, pss_cons (ps_set (i := 2) nd rfl (Or.inl rfl) pe_int)
      (pss_cons (ps_for PassesOwn.never rfl (pi_tup (pe_tup (pa_cons (pe_fld (pv 0) rfl) (pa_cons (pe_fld (pv 0) rfl) pa_nil)))) (pg_name (i := 3) nd rfl (Or.inr rfl))
        (pss_one (ps_aug (i := 2) nd rfl (Or.inl rfl) (pe_mt (pv 3) T.cl_Family T.mt_Family_rank_of R hr (pa_cons (pe_callTy call_tuple_of (by rfl) T.f_tuple (by decide +kernel) (pa_cons
          (pe_lc (own := [("thing", 4)]) (g := gName 4) rfl nd (pi_tup (pv 1)) (blkOk_by (N := ["self", "lot", "found", "family", "thing"]) (sc := defScope s_Joined_count_free) (by decide +kernel)) (fun _ _ _ _ _ => pg_name (i := 4) nd rfl (Or.inl rfl))
            (fun _ _ _ _ _ => pts_one (pt_cmpR (op_inOwn T.mt_Family_contains FI (hr.mono hlv) bI) (pv 4) (pv 3) (by rfl))) (fun _ _ _ _ _ => pv 4)) pa_nil)) pa_nil)) ip_add)))
      (pss_one (ps_ret (pv 2)))), ?_⟩
    refine ⟨_, rfl, s, _, dx, _, _, rfl, hs, T.cl_Joined, T.na_Joined_first, lk2a, _, rfl, s, _, dx, _, _, rfl, hs, T.cl_Joined, T.na_Joined_second, lk2b (by decide +kernel), by rw [sizeLine_eq]; simp, fun p hp => ?_⟩
    refine ⟨p, rfl, ⟨_, SqT.of upd_same⟩, ?_⟩
    have rg0 : Rg Γ H (upd H p (.tup [.ref a, .ref b])) := Rg.put G.caches (.refl G.caches) hp
    refine forJ (H0 := upd H p (.tup [.ref a, .ref b])) (R := Rg Γ) (xs := [.ref a, .ref b]) (src_tup fun H' r => SqT.of (r.st.tup upd_same))
      (fun i σ H1 => (∃ o3 o4, σ = [some (.ref s), some (.ref l), some (.int ((if i = 0 then 0 else if i = 1 then j.r (xs.filter (mem j.E)) else rSum j.E k.E j.r k.r xs : Nat) : Int)), o3, o4]) ∧ Rg Γ (upd H p (.tup [.ref a, .ref b])) H1) (fun i σ H1 q => q.2) ?_ ?_ ?_
    · exact ⟨⟨_, _, rfl⟩, .refl rg0.ca⟩
    · rintro σ H1 ⟨⟨o3, o4, rfl⟩, r1⟩
      exact ⟨_, rfl, kk H1 (rg0.trans r1)⟩
    · rintro i x σ H1 hi ⟨⟨o3, o4, rfl⟩, r1⟩ N hN
      have r01 := rg0.trans r1
      have G1 := G.step r01
      have sub2 : ∀ E1 : List Str, E'.filter (mem E1) = E1 → (xs.filter (mem E1)).Sublist E1 := fun E1 e => by
        have := hx.filter (mem E1)
        rw [e] at this
        exact this
      obtain ⟨f, ii, rfl, gf, hdf, hsub, hacc⟩ : ∃ (f : Addr) (ii : FInfo), x = .ref f ∧ Γ f = some ii ∧ ii.dep < n ∧ (xs.filter (mem ii.E)).Sublist ii.E ∧
          (if i + 1 = 0 then 0 else if i + 1 = 1 then j.r (xs.filter (mem j.E)) else rSum j.E k.E j.r k.r xs) = (if i = 0 then 0 else if i = 1 then j.r (xs.filter (mem j.E)) else rSum j.E k.E j.r k.r xs) + ii.r (xs.filter (mem ii.E)) := by
        match i, hi with
        | 0, hi => exact ⟨a, j, (Option.some.inj hi).symm, ga, hda, sub2 _ side.l, by simp⟩
        | 1, hi => exact ⟨b, k, (Option.some.inj hi).symm, gb, hdb, sub2 _ side.r, by simp [rSum]⟩
        | i + 2, hi => simp at hi
      obtain ⟨⟨dx2, hob⟩, hnm, _⟩ := G1.fam f ii gf
      have hl1 := r01.st.tup hl
      refine ⟨_, rfl, _, rfl, f, dx2, _, rfl, hob, famF_no _ _ _ (by decide +kernel) (by decide +kernel) (by decide +kernel), ?_⟩
      refine ⟨_, rfl, l, rfl, ⟨_, SqT.of hl1⟩, fun D hD => ?_⟩
      refine lcV (H0 := H1) (same_frm H1) (src_tup fun H' r => SqT.of (r _ _ hl1)) (fun i => mem ii.E (xs.getD i e0)) (fun i => .str (xs.getD i e0)) (by have := hx.length_le; simp; omega) (fun x => rfl) hD (same_new hD) ?_ ?_ ?_
      · intro m y H2 Qb hm r q
        obtain ⟨z, hz, rfl⟩ := txs_at hm
        refine ⟨_, rfl, _, rfl, f, dx2, _, rfl, r _ _ hob, f, _, _, _, ii.E, z, rfl, ⟨⟨dx2, r _ _ hob⟩, r _ _ hnm⟩, ⟨_, rfl, _, rfl, ?_⟩⟩
        rw [← getD_at (d := e0) hz]
        exact q H2 (Same.refl _)
      · intro m y H2 Qv hm _ r q
        obtain ⟨z, hz, rfl⟩ := txs_at hm
        refine ⟨_, rfl, ?_⟩
        rw [← getD_at (d := e0) hz]
        exact q H2 (Same.refl _)
      · intro H2 r2 hd2
        have e : (picks (txs xs).length fun i => mem ii.E (xs.getD i e0)).map (fun i => V.str (xs.getD i e0)) = txs (xs.filter (mem ii.E)) := by
          rw [List.length_map, picks_filter V.str e0 (mem ii.E) xs]
        rw [e] at hd2
        refine ⟨D, _, rfl, .inl ⟨SqL.of hd2, fun t ht => ?_⟩⟩
        have s2 : Same H1 (upd H2 t (.tup (txs (xs.filter (mem ii.E))))) := same_put r2 (r2.free ht)
        have G2 := G1.step (.of_same G1.caches s2)
        refine ⟨Γ, f, t, ii, _, rfl, G2, gf, hdf, upd_same, hsub, fun H3 r3 => ⟨_, _, rfl, rfl, ?_⟩⟩
        have e3 : ((if i = 0 then 0 else if i = 1 then j.r (xs.filter (mem j.E)) else rSum j.E k.E j.r k.r xs : Nat) : Int) + ((ii.r (xs.filter (mem ii.E)) : Nat) : Int) = ((if i + 1 = 0 then 0 else if i + 1 = 1 then j.r (xs.filter (mem j.E)) else rSum j.E k.E j.r k.r xs : Nat) : Int) := by
          rw [hacc]; omega
        refine hN _ _ ⟨⟨some (.ref f), o4, ?_⟩, r1.trans ((Rg.of_same G1.caches s2).trans r3)⟩
        rw [← e3]
        rfl
theorem perm_names {E E1 xs : List Str} {f : Str → Str} (hp : E.Perm (E1.map f)) (ndE : E.Nodup) (inj : ∀ x ∈ E1, ∀ y ∈ E1, f x = f y → x = y) (hx : xs.Sublist E) (nd1 : E1.Nodup) :
    ∃ us : List Str, us.map f = xs ∧ (∀ u ∈ us, u ∈ E1) ∧ us.Perm (E1.filter fun x => mem xs (f x)) := by
  have all : ∀ ys : List Str, (∀ y ∈ ys, y ∈ E1.map f) → ∃ us : List Str, us.map f = ys ∧ ∀ u ∈ us, u ∈ E1 := by
    intro ys
    induction ys with
    | nil => intro _; exact ⟨[], rfl, fun u hu => by cases hu⟩
    | cons y ys ih =>
      intro h
      obtain ⟨us, e, m⟩ := ih fun z hz => h z (List.mem_cons_of_mem _ hz)
      obtain ⟨u, hu, eu⟩ := List.mem_map.mp (h y List.mem_cons_self)
      refine ⟨u :: us, by rw [List.map_cons, e, eu], fun v hv => ?_⟩
      rcases List.mem_cons.mp hv with rfl | hv
      · exact hu
      · exact m v hv
  obtain ⟨us, e, m⟩ := all xs fun y hy => hp.mem_iff.mp (hx.subset hy)
  refine ⟨us, e, m, ?_⟩
  have ndx : xs.Nodup := ndE.sublist hx
  have ndu : us.Nodup := nd_of f us (by rw [e]; exact ndx)
  refine (List.perm_ext_iff_of_nodup ndu (nd1.filter _)).mpr fun u => ?_
  constructor
  · intro h
    refine List.mem_filter.mpr ⟨m u h, mem_t.mpr ?_⟩
    rw [← e]
    exact List.mem_map_of_mem h
  · intro h
    obtain ⟨h1, h2⟩ := List.mem_filter.mp h
    have h3 := mem_t.mp h2
    rw [← e] at h3
    obtain ⟨v, hv, ev⟩ := List.mem_map.mp h3
    rw [← inj v (m v hv) u h1 ev]
    exact hv
theorem ren_val {E1 : List Str} {f : Str → Str} (inj : ∀ x ∈ E1, ∀ y ∈ E1, f x = f y → x = y) {u : Str} (hu : u ∈ E1) : valV (E1.map fun x => ((Sum.inr (f x) : Key), V.str x)) (Sum.inr (f u) : Key) = some (.str u) := by
  induction E1 with
  | nil => cases hu
  | cons x E1 ih =>
    by_cases q : f x = f u
    · have := inj x List.mem_cons_self u hu q
      subst this
      exact valV_pos rfl
    · rw [List.map_cons, valV_neg (fun z => q (Sum.inr.inj z))]
      rcases List.mem_cons.mp hu with rfl | hu
      · exact absurd rfl q
      · exact ih (fun a ha b hb => inj a (List.mem_cons_of_mem _ ha) b (List.mem_cons_of_mem _ hb)) hu
theorem ok_Renamed_count_free (T : TX K mg) {n lv : Nat} (R : FOk P w K mg base lv ("Family", some "rank_of") ["self", "lot"] (spRank K n)) : FOk P w K mg base (lv + 1) ("Renamed", some "count_free") ["self", "lot"] (spRenCF K n) := by
  refine T.fn 43 (d := d_Renamed_count_free) rfl rfl rfl sc_Renamed_count_free (fun vs H Q E h => ?_) (fun _ _ _ _ _ _ us hl => match us, hl with | [_, _], _ => rfl) (fun cdv A outer s H vs Q E hr h => ?_)
  · obtain ⟨Γ, s, dx, a, o, l, j, f, E, xs, rfl, _⟩ := h; rfl
  · obtain ⟨Γ, s, dx, a, o, l, j, f, E', xs, rfl, hs, G, ga, hda, hl, hx, ho, hp, ndE, inj, kk⟩ := h
    have nd := sc_Renamed_count_free.nd
    have hu := hu_of hr
    refine ⟨_, pss_one (ps_ret (pe_mt (pe_fld (pv 0) rfl) T.cl_Family T.mt_Family_rank_of R hr (pa_cons (pe_callTy call_tuple_of (by rfl) T.f_tuple (by decide +kernel) (pa_cons (pe_callB cr_sortedS (by rfl) T.f_sorted (by decide +kernel) (pa_cons
          (pe_lc (own := [("name", 2)]) (g := gName 2) rfl nd (pi_tup (pv 1)) (blkOk_by (N := ["self", "lot", "name"]) (sc := defScope s_Renamed_count_free) (by decide +kernel)) (fun _ _ _ _ _ => pg_name (i := 2) nd rfl (Or.inl rfl))
            (fun _ _ _ _ _ => pts_nil) (fun _ _ _ _ _ => pe_dget hu (peFld K (pv 0) rfl) (pv 2) (fun _ _ => rfl))) pa_nil)) pa_nil)) pa_nil))), ?_⟩
    have F := G.fam a j ga
    obtain ⟨dx2, hob⟩ := F.ob
    have few := F.few
    obtain ⟨us, eus, mus, pus⟩ := perm_names hp ndE inj hx F.mat.nd
    have lus : us.length = xs.length := by rw [← eus, List.length_map]
    have lxs : xs.length ≤ 14 := by
      have h1 := hx.length_le
      have h2 := hp.length_eq
      rw [List.length_map] at h2
      omega
    refine ⟨_, rfl, s, _, dx, _, _, rfl, hs, T.cl_Renamed, T.na_Renamed_inner, lk2a, a, dx2, _, rfl, hob, famF_no _ _ _ (by decide +kernel) (by decide +kernel) (by decide +kernel), ?_⟩
    refine ⟨_, rfl, l, rfl, ⟨_, SqT.of hl⟩, fun D hD => ?_⟩
    refine lcV (H0 := H) (same_frm H) (src_tup fun H' r => SqT.of (r _ _ hl)) (fun _ => true) (fun i => .str (us.getD i e0)) (by simp; omega) (fun x => rfl) hD (same_new hD) ?_ ?_ ?_
    · intro m y H2 Qb hm r q
      exact q H2 (Same.refl _)
    · intro m y H2 Qv hm _ r q
      obtain ⟨z, hz, rfl⟩ := txs_at hm
      have hz2 := hz
      rw [← eus, List.getElem?_map] at hz2
      cases eu : us[m]? with
      | none => rw [eu] at hz2; cases hz2
      | some u =>
        rw [eu] at hz2
        have ez : f u = z := Option.some.inj hz2
        have g1 := DGet.k (k := .inr (f u)) (r _ _ ho)
        rw [ren_val inj (mus u (List.mem_of_getElem? eu))] at g1
        rw [← ez]
        refine ⟨_, rfl, s, _, dx, _, _, rfl, r _ _ hs, T.cl_Renamed, T.na_Renamed_olds, lk2b (by decide +kernel), _, rfl, o, _, rfl, g1, ?_⟩
        rw [← getD_at (d := e0) eu]
        exact q H2 (Same.refl _)
    · intro H2 r2 hd2
      have e : (picks (txs xs).length fun _ => true).map (fun i => V.str (us.getD i e0)) = txs us := by
        rw [List.length_map, picks_all, ← lus]
        exact map_range' V.str e0 us
      rw [e] at hd2
      refine ⟨D, us, rfl, SqL.of hd2, by omega, fun ys q pm srt hq => ?_⟩
      have eys : ys = j.E.filter fun x => mem xs (f x) := sorted_eq (pm.trans pus) srt (sorted_sub List.filter_sublist F.srt)
      refine ⟨q, _, rfl, .inl ⟨SqL.of upd_same, fun t ht => ?_⟩⟩
      have n1 : H q = none := r2.free hq
      have s3 : Same H (upd H2 q (.lst (txs ys))) := same_put r2 n1
      have s4 : Same H (upd (upd H2 q (.lst (txs ys))) t (.tup (txs ys))) := same_put s3 (s3.free ht)
      have G2 := G.step (.of_same G.caches s4)
      refine ⟨Γ, a, t, j, ys, rfl, G2, ga, hda, upd_same, by rw [eys]; exact List.filter_sublist, fun H3 r3 => ?_⟩
      rw [eys]
      exact kk H3 ((Rg.of_same G.caches s4).trans r3)
theorem cache_put {i : FInfo} {kvs : List (List Key × V)} (c : CacheOk i kvs) {xs : List Str} (hx : xs.Sublist i.E) : CacheOk i (putK kvs (keyL xs) (.int (i.r xs))) := by
  cases e : valV kvs (keyL xs) with
  | none =>
    rw [putK_new _ e]
    refine ⟨?_, fun p hp => ?_⟩
    · rw [List.map_append]
      refine List.nodup_append.mpr ⟨c.nd, by simp, fun a ha b hb q => ?_⟩
      have hb : b = keyL xs := by simpa using hb
      subst hb
      exact valV_not e (q ▸ ha)
    · rcases List.mem_append.mp hp with h | h
      · exact c.ok p h
      · have := List.mem_singleton.mp h
        subst this
        exact ⟨xs, hx, rfl, rfl⟩
  | some v =>
    have e1 : putK kvs (keyL xs) (.int (i.r xs)) = kvs.map fun kv => if kv.1 = keyL xs then (kv.1, .int (i.r xs)) else kv := by
      unfold putK
      rw [if_pos (by rw [valV_any, e]; rfl)]
    rw [e1]
    refine ⟨?_, fun p hp => ?_⟩
    · rw [List.map_map]
      have : ((fun x => x.1) ∘ fun kv : List Key × V => if kv.1 = keyL xs then (kv.1, V.int (i.r xs)) else kv) = fun kv : List Key × V => kv.1 := by
        funext kv
        show (if kv.1 = keyL xs then (kv.1, V.int (i.r xs)) else kv).1 = kv.1
        split <;> rfl
      rw [this]
      exact c.nd
    · obtain ⟨q, hq, rfl⟩ := List.mem_map.mp hp
      by_cases z : q.1 = keyL xs
      · rw [if_pos z]
        exact ⟨xs, hx, z, rfl⟩
      · rw [if_neg z]
        exact c.ok q hq
theorem cache_get {i : FInfo} {kvs : List (List Key × V)} (c : CacheOk i kvs) {xs : List Str} {v : V} (h : valV kvs (keyL xs) = some v) : v = .int (i.r xs) := by
  have go : ∀ kvs : List (List Key × V), (∀ p ∈ kvs, ∃ l : List Str, l.Sublist i.E ∧ p.1 = keyL l ∧ p.2 = .int (i.r l)) → valV kvs (keyL xs) = some v → v = .int (i.r xs) := by
    intro kvs
    induction kvs with
    | nil => intro _ h; cases h
    | cons p kvs ih =>
      intro ok h
      by_cases e : p.1 = keyL xs
      · rw [valV_pos e] at h
        obtain ⟨l, _, e1, e2⟩ := ok p List.mem_cons_self
        have el : l = xs := keyL_inj (e1.symm.trans e)
        rw [← Option.some.inj h, e2, el]
      · rw [valV_neg e] at h
        exact ih (fun q hq => ok q (List.mem_cons_of_mem _ hq)) h
  exact go kvs c.ok h
theorem ok_rank_zero (T : TX K mg) : FOk P w K mg base 1 ("Family", some "rank_of") ["self", "lot"] (spRank K 0) :=
  T.fn 8 (d := d_Family_rank_of) rfl rfl rfl sc_Family_rank_of (fun vs H Q E h => by obtain ⟨_, _, _, _, _, _, _, _, h, _⟩ := h; omega) (fun _ _ _ _ _ _ us hl => match us, hl with | [_, _], _ => rfl)
    (fun cdv A outer s H vs Q E hr h => by obtain ⟨_, _, _, _, _, _, _, _, h, _⟩ := h; omega)
theorem ok_rank_next (T : TX K mg) {n lv : Nat} (hlv : 1 ≤ lv) (R : FOk P w K mg base lv ("Family", some "rank_of") ["self", "lot"] (spRank K n)) : FOk P w K mg base (lv + 2) ("Family", some "rank_of") ["self", "lot"] (spRank K (n + 1)) := by
  refine T.fn 8 (d := d_Family_rank_of) rfl rfl rfl sc_Family_rank_of (fun vs H Q E h => ?_) (fun _ _ _ _ _ _ us hl => match us, hl with | [_, _], _ => rfl) (fun cdv A outer s H vs Q E hr h => ?_)
  · obtain ⟨Γ, a, l, i, xs, rfl, _⟩ := h; rfl
  · obtain ⟨Γ, a, l, i, xs, rfl, G, g, hd, hl, hx, k⟩ := h
    have hu := hu_of hr
    refine ⟨_, pss_cons (ps_if (pt_cmp (pc_dnotin hu (pv 1) (pe_fld (pv 0) rfl))) (pss_one (ps_dput hu (pe_fld (pv 0) rfl) (pv 1) (BF.PE.or (pe_mt (pe_fld (pv 0) rfl) T.cl_Web T.mt_Web_count_free ((ok_Web_count_free T).mono (by omega : 2 ≤ lv + 1)) hr (pa_cons (pv 1) pa_nil))
      (BF.PE.or (pe_mt (pe_fld (pv 0) rfl) T.cl_Listed T.mt_Listed_count_free ((ok_Listed_count_free T).mono (by omega : 1 ≤ lv + 1)) hr (pa_cons (pv 1) pa_nil))
      (BF.PE.or (pe_mt (pe_fld (pv 0) rfl) T.cl_AllFree T.mt_AllFree_count_free ((ok_AllFree_count_free T).mono (by omega : 1 ≤ lv + 1)) hr (pa_cons (pv 1) pa_nil))
      (BF.PE.or (pe_mt (pe_fld (pv 0) rfl) T.cl_Short T.mt_Short_count_free (ok_Short_count_free T R) hr (pa_cons (pv 1) pa_nil))
      (BF.PE.or (pe_mt (pe_fld (pv 0) rfl) T.cl_Joined T.mt_Joined_count_free (ok_Joined_count_free T R hlv) hr (pa_cons (pv 1) pa_nil))
      (pe_mt (pe_fld (pv 0) rfl) T.cl_Renamed T.mt_Renamed_count_free (ok_Renamed_count_free T R) hr (pa_cons (pv 1) pa_nil))))))) rfl)) pss_nil) (pss_one (ps_ret (pe_dget hu (pe_fld (pv 0) rfl) (pv 1) (fun _ _ => rfl)))), ?_⟩
    have F := G.fam a i g
    obtain ⟨dx, hob⟩ := F.ob
    obtain ⟨kvs, hd0, c0⟩ := F.ca
    refine ⟨_, rfl, _, rfl, a, _, dx, _, _, rfl, hob, T.cl_Family, T.na_Family_counted, famF_counted _ _ _, i.d, _, rfl, DGet.t hd0 (k := keyL xs) (by rw [keyL_kV]; exact hl), _, rfl, ?_⟩
    cases e : valV kvs (keyL xs) with
    | some v =>
      have ev := cache_get c0 e
      refine iteF ⟨_, rfl, a, _, dx, _, _, rfl, hob, T.cl_Family, T.na_Family_counted, famF_counted _ _ _, _, rfl, i.d, v, rfl, ?_, ?_⟩
      · rw [← e]; exact DGet.t hd0 (by rw [keyL_kV]; exact hl)
      · rw [ev]; exact k H (.refl G.caches)
    | none =>
      refine iteT ?_
      -- behind the count
      have fin : ∀ H1, Rg Γ H H1 → sDPut (tFld K (tVar 0) "counted") (tVar 1) (tC (.int (i.r xs))) { nx := fun σ H' => tRet (tDGet (tFld K (tVar 0) "counted") (tVar 1)) { nx := fun _ H' => Q .non H', rt := Q } σ H', rt := Q } (L2.start ["self", "lot"] [.ref a, .ref l]) H1 := by
        intro H1 r1
        have G1 := G.step r1
        have F1 := G1.fam a i g
        obtain ⟨kvs1, hd1, c1⟩ := F1.ca
        have hob1 := r1.st.ins hob
        have hl1 := r1.st.tup hl
        have lim := cache_few c1 F1.few
        have c2 := cache_put c1 hx
        have r2 := G1.store g c2
        refine ⟨_, rfl, a, _, dx, _, _, rfl, hob1, T.cl_Family, T.na_Family_counted, famF_counted _ _ _, _, rfl, i.d, _, rfl, DPut.t hd1 (k := keyL xs) (by rw [keyL_kV]; exact hl1) (by rw [sizeLine_eq]; omega), ?_⟩
        have r12 := r1.trans r2
        refine ⟨_, rfl, a, _, dx, _, _, rfl, r2.st.ins hob1, T.cl_Family, T.na_Family_counted, famF_counted _ _ _, _, rfl, i.d, .int (i.r xs), rfl, ?_, k _ r12⟩
        have : valV (putK kvs1 (keyL xs) (V.int (i.r xs))) (keyL xs) = some (.int (i.r xs)) := by rw [valV_put, if_pos rfl]
        rw [← this]
        exact DGet.t upd_same (by rw [keyL_kV]; exact r2.st.tup hl1)
      have same : ∀ H1, Same H H1 → Rg Γ H H1 := fun H1 s => .of_same G.caches s
      have hsr : (famF i.nt i.src i.d).lookup ("source" : Str) = some (.ref i.src) := famF_source _ _ _
      have hz : xs.length ≤ 1000 := by have := hx.length_le; have := F.few; omega
      have go : ∀ v H1, Rg Γ H H1 → v = V.int (i.r xs) → sDPut (tFld K (tVar 0) "counted") (tVar 1) (tC v) { nx := fun σ H' => tRet (tDGet (tFld K (tVar 0) "counted") (tVar 1)) { nx := fun _ H' => Q .non H', rt := Q } σ H', rt := Q } (L2.start ["self", "lot"] [.ref a, .ref l]) H1 := fun v H1 r e => by
        rw [e]; exact fin H1 r
      cases F.sr with
      | web ps es ww hE hrr =>
        obtain ⟨dx2, kt, ed, h1, _⟩ := ww.ob
        exact .inl ⟨_, rfl, a, _, dx, _, _, rfl, hob, T.cl_Family, T.na_Family_source, hsr, i.src, dx2, _, rfl, h1, webF_no _ _ (by decide +kernel) (by decide +kernel), _, rfl, i.src, l, ps, es, xs, rfl, ww, SqT.of hl, hz, fun x hxx => hE x (hx.subset hxx), fun H1 s1 => go _ H1 (same H1 s1) (by rw [hrr xs hx])⟩
      | listed Bs ww hrr =>
        obtain ⟨dx2, lv2, vs2, h1, _⟩ := ww.ob
        obtain ⟨q1, q2⟩ := hrr xs hx
        exact .inr (.inl ⟨_, rfl, a, _, dx, _, _, rfl, hob, T.cl_Family, T.na_Family_source, hsr, i.src, dx2, _, rfl, h1, lk1 (by decide +kernel), _, rfl, i.src, l, Bs, xs, i.r xs, rfl, ww, SqT.of hl, hz, q1, q2, fun H1 s1 => go _ H1 (same H1 s1) rfl⟩)
      | free dx2 h1 hrr =>
        exact .inr (.inr (.inl ⟨_, rfl, a, _, dx, _, _, rfl, hob, T.cl_Family, T.na_Family_source, hsr, i.src, dx2, _, rfl, h1, rfl, _, rfl, i.src, l, xs, rfl, SqT.of hl, go _ H (.refl G.caches) (by rw [hrr xs hx])⟩))
      | short dx2 b c j h1 gj hdj hEj hrr =>
        exact .inr (.inr (.inr (.inl ⟨_, rfl, a, _, dx, _, _, rfl, hob, T.cl_Family, T.na_Family_source, hsr, i.src, dx2, _, rfl, h1, lk2 (by decide +kernel) (by decide +kernel), _, rfl, Γ, i.src, dx2, b, l, c, j, xs, rfl, h1, G, gj, by omega, hl, by rw [hEj]; exact hx, fun H1 r1 => go _ H1 r1 (by rw [hrr xs hx])⟩)))
      | joined dx2 b c j k2 h1 gj gk hdj hdk side hrr =>
        exact .inr (.inr (.inr (.inr (.inl ⟨_, rfl, a, _, dx, _, _, rfl, hob, T.cl_Family, T.na_Family_source, hsr, i.src, dx2, _, rfl, h1, lk2 (by decide +kernel) (by decide +kernel), _, rfl, Γ, i.src, dx2, b, c, l, j, k2, i.E, xs, rfl, h1, G, gj, gk, by omega, by omega, hl, hx, side, by have := F.few; omega, fun H1 r1 => go _ H1 r1 (by rw [hrr xs hx])⟩))))
      | renamed dx2 b o j f h1 gj hdj ho hE inj hrr =>
        exact .inr (.inr (.inr (.inr (.inr ⟨_, rfl, a, _, dx, _, _, rfl, hob, T.cl_Family, T.na_Family_source, hsr, i.src, dx2, _, rfl, h1, lk2 (by decide +kernel) (by decide +kernel), _, rfl, Γ, i.src, dx2, b, o, l, j, f, i.E, xs, rfl, h1, G, gj, by omega, hl, hx, ho, hE, F.mat.nd, inj, fun H1 r1 => go _ H1 r1 (by rw [hrr xs hx])⟩))))
theorem ok_rank (T : TX K mg) : ∀ n : Nat, FOk P w K mg base (2 * n + 1) ("Family", some "rank_of") ["self", "lot"] (spRank K n)
  | 0 => ok_rank_zero T
  | n + 1 => ok_rank_next T (by omega) (ok_rank T n)
end
end BF
set_option Elab.async false
set_option linter.all false
set_option maxRecDepth 100000
set_option maxHeartbeats 4000000
/-! stuck, ring_within. -/
namespace BF
open PySem PySem.Spec PyProof.Rows L2
section
variable {X : Cx}
theorem peMtK (K : PySem.W.Frag) {k : Nat} {C : Str} {m : Str} {ps : List Str} {sp : Sp} {o e : Expr} {es : List Expr} {ta : TE} {t : TA} {apos pos : Pos} {pl : Sem Bool} (he : PE X o ta) (c : Cls K (He.ga K C)) (hm : Meth K (He.ga K C) m (He.ma K (He.ga K C) m)) (G : FOk X.prog X.w K X.mg X.base k (C, some m) ps sp) (hr : Room k X.A) (ha : PA X (e :: es) t)
    (h : X.K = K := by rfl)
    (hst : starEach (e :: es) X.env = (false, eval e X.env) :: starEach es X.env := by rfl) (hpl : (backTo pos (starEach es X.env)).any (·.1) = false := by rfl)
    (ht : eval (.Call (.Attribute o m apos) (e :: es) [] pos) X.env = (do
      let ov ← eval o X.env
      standAt apos.atName
      let (f, first) ← holding [ov] (getMethod ov m pl)
      callWith pos f first (backTo pos (starEach (e :: es) X.env)) (backToKw pos (keywordEach [] X.env))) := by rfl) :
    PE X (.Call (.Attribute o m apos) (e :: es) [] pos) (tMeth (He.ga K C) m sp [] E0 ta t) := by
  subst h
  exact pe_mt he c hm G hr ha hst hpl ht
end
theorem decInt (a b : Nat) : decide (V.int (a : Int) = V.int (b : Int)) = decide (a = b) := by
  by_cases h : a = b
  · rw [h]; simp
  · rw [decide_eq_false h, decide_eq_false (fun q => h (by injection q with q; omega))]
def spStuck (K : PySem.W.Frag) (n : Nat) : Sp := fun vs H Q _ => ∃ (Γ : Gh) (a : Addr) (i : FInfo), vs = [.ref a] ∧ Good K Γ H ∧ Γ a = some i ∧ i.dep < n ∧
  ∀ H' p, Rg Γ H H' → H p = none → H' p = some (.lst (txs (i.E.filter fun x => decide (i.r [x] = 0)))) → Q (.ref p) H'
def spRing (K : PySem.W.Frag) (n : Nat) : Sp := fun vs H Q _ => ∃ (Γ : Gh) (a l : Addr) (i : FInfo) (xs : List Str) (x : Str), vs = [.ref a, .ref l, .str x] ∧ Good K Γ H ∧ Γ a = some i ∧ i.dep < n ∧ H l = some (.tup (txs xs)) ∧ xs.Sublist i.E ∧ x ∈ i.E ∧ x ∉ xs ∧
  (Fr i.E i.r (pin (mem xs) x) → ∀ H', Rg Γ H H' → Q .non H') ∧
  (¬ Fr i.E i.r (pin (mem xs) x) → ∀ H' p, Rg Γ H H' → H p = none → H' p = some (.tup (txs ((i.E.filter (pin (mem xs) x)).filter fun z => decide (i.r (i.E.filter (pdel (pin (mem xs) x) z)) = xs.length)))) → Q (.ref p) H')
theorem sc_Family_stuck : FnScope ["self", "thing"] ["self"] (defScope s_Family_stuck) := ⟨rfl, rfl, rfl, by decide +kernel, rfl, by decide +kernel, by decide +kernel⟩
theorem sc_ring_within : FnScope ["family", "lot", "thing", "whole", "one"] ["family", "lot", "thing"] (defScope s_ring_within) := ⟨rfl, rfl, rfl, by decide +kernel, rfl, by decide +kernel, by decide +kernel⟩
theorem single_sub {x : Str} {E : List Str} (h : x ∈ E) : [x].Sublist E := List.singleton_sublist.mpr h
section
variable {P : Program} {w : World} {K : PySem.W.Frag} {mg : Str → Option Value} {base : Heap}
theorem ok_Family_stuck (T : TX K mg) (n : Nat) : FOk P w K mg base (2 * n + 2) ("Family", some "stuck") ["self"] (spStuck K n) := by
  refine T.fn 11 (d := d_Family_stuck) rfl rfl rfl sc_Family_stuck (fun vs H Q E h => ?_) (fun _ _ _ _ _ _ us hl => match us, hl with | [_], _ => rfl) (fun cdv A outer s H vs Q E hr h => ?_)
  · obtain ⟨Γ, a, i, rfl, _⟩ := h; rfl
  · obtain ⟨Γ, a, i, rfl, G, g, hd, k⟩ := h
    have nd := sc_Family_stuck.nd
    refine ⟨_, pss_one (ps_ret (pe_lc (own := [("thing", 1)]) (g := gName 1) rfl nd (pi_tup (pe_fld (pv 0) rfl)) (blkOk_by (N := ["self", "thing"]) (sc := defScope s_Family_stuck) (by decide +kernel)) (fun _ _ _ _ _ => pg_name (i := 1) nd rfl (Or.inl rfl))
            (fun _ _ _ _ _ => pts_one (pt_cmpR op_eq (peMtK K (pv 0) T.cl_Family T.mt_Family_rank_of (ok_rank T n) hr (pa_cons (pe_tup (pa_cons (pv 1) pa_nil)) pa_nil)) pe_int (by rfl))) (fun _ _ _ _ _ => pv 1))), ?_⟩
    have F := G.fam a i g
    obtain ⟨dx, hob⟩ := F.ob
    have few := F.few
    refine ⟨_, rfl, a, _, dx, _, _, rfl, hob, T.cl_Family, T.na_Family_names, famF_names _ _ _, i.nt, rfl, ⟨_, SqT.of F.nm⟩, fun D hD => ?_⟩
    refine lcV (H0 := H) (rg_frm G.caches) (src_tup fun H' r => SqT.of (r.st.tup F.nm)) (fun m => decide (i.r [i.E.getD m e0] = 0)) (fun m => .str (i.E.getD m e0)) (by simp; omega) (fun x => rfl) hD (Rg.put G.caches (.refl G.caches) hD) ?_ ?_ ?_
    · intro m y H2 Qb hm r q
      obtain ⟨z, hz, rfl⟩ := txs_at hm
      have G2 := G.step r
      refine ⟨_, rfl, a, dx, _, rfl, r.st.ins hob, famF_no _ _ _ (by decide +kernel) (by decide +kernel) (by decide +kernel), _, rfl, len1, fun t ht => ?_⟩
      have s3 : Same H2 (upd H2 t (.tup [.str z])) := same_new ht
      have r3 : Rg Γ H2 (upd H2 t (.tup [.str z])) := .of_same G2.caches s3
      refine ⟨Γ, a, t, i, [z], rfl, G2.step r3, g, hd, upd_same, single_sub (List.mem_of_getElem? hz), fun H3 r4 => ⟨rfl, _, rfl, ?_⟩⟩
      rw [show decide (V.int ((i.r [z] : Nat) : Int) = V.int 0) = decide (i.r [z] = 0) from decInt _ 0, ← getD_at (d := e0) hz]
      exact q H3 (r3.trans r4)
    · intro m y H2 Qv hm _ r q
      obtain ⟨z, hz, rfl⟩ := txs_at hm
      refine ⟨_, rfl, ?_⟩
      rw [← getD_at (d := e0) hz]
      exact q H2 (.refl r.ca)
    · intro H2 r hd2
      refine k H2 D r hD ?_
      rw [hd2, List.length_map]
      exact congrArg (fun z => some (HO.lst z)) (picks_filter V.str e0 (fun x => decide (i.r [x] = 0)) i.E)
theorem ok_ring_within (T : TX K mg) (n : Nat) : FOk P w K mg base (2 * n + 2) ("ring_within", none) ["family", "lot", "thing"] (spRing K n) := by
  refine T.fn 12 (d := d_ring_within) rfl rfl rfl sc_ring_within (fun vs H Q E h => ?_) (fun _ _ _ _ _ _ us hl => match us, hl with | [_, _, _], _ => rfl) (fun cdv A outer s H vs Q E hr h => ?_)
  · obtain ⟨Γ, a, l, i, xs, x, rfl, _⟩ := h; rfl
  · obtain ⟨Γ, a, l, i, xs, x, rfl, G, g, hd, hl, hsub, hxE, hxn, k1, k2⟩ := h
    have nd := sc_ring_within.nd
    refine ⟨_, pss_cons (ps_set (i := 3) nd rfl (Or.inr rfl) (pe_cl (ok_with_thing T) (hr.mono (by omega)) T.g_with_thing (pa_cons (pv 1) (pa_cons (pv 2) pa_nil))))
      (pss_cons (ps_if (pt_cmpR op_eq (pe_mt (pv 0) T.cl_Family T.mt_Family_rank_of (ok_rank T n) hr (pa_cons (pv 3) pa_nil)) (pe_callB call_len_seq (by rfl) T.f_len (by decide +kernel) (pa_cons (pv 3) pa_nil)) (by rfl)) (pss_one (ps_ret pe_non)) pss_nil)
      (pss_one (ps_ret (pe_callTy call_tuple_of (by rfl) T.f_tuple (by decide +kernel) (pa_cons
        (pe_lc (own := [("one", 4)]) (g := gName 4) rfl nd (pi_tup (pv 3)) (blkOk_by (N := ["family", "lot", "thing", "whole", "one"]) (sc := defScope s_ring_within) (by decide +kernel)) (fun _ _ _ _ _ => pg_name (i := 4) nd rfl (Or.inl rfl))
            (fun _ _ _ _ _ => pts_one (pt_cmpR op_eq (peMtK K (pv 0) T.cl_Family T.mt_Family_rank_of (ok_rank T n) hr (pa_cons (pe_cl (ok_less T) (hr.mono (by omega)) T.g_less (pa_cons (pv 3) (pa_cons (pe_tup (pa_cons (pv 4) pa_nil)) pa_nil))) pa_nil)) (pe_callB (crLen K) (by rfl) T.f_len (by decide +kernel) (pa_cons (pv 1) pa_nil)) (by rfl))) (fun _ _ _ _ _ => pv 4)) pa_nil))))), ?_⟩
    have F := G.fam a i g
    obtain ⟨dx, hob⟩ := F.ob
    have few := F.few
    have ndE := F.mat.nd
    have lx := hsub.length_le
    refine ⟨_, rfl, _, rfl, l, xs, x, rfl, SqT.of hl, by omega, fun ys H1 W s1 hW pm srt hW1 => ?_⟩
    have ey : ys = i.E.filter (pin (mem xs) x) := by
      refine sorted_eq ?_ srt (sorted_sub List.filter_sublist F.srt)
      refine pm.trans ?_
      refine (List.perm_ext_iff_of_nodup (List.nodup_cons.mpr ⟨hxn, ndE.sublist hsub⟩) (ndE.filter _)).mpr fun z => ?_
      rw [List.mem_cons, List.mem_filter]
      constructor
      · rintro (rfl | h)
        · exact ⟨hxE, pin_t.mpr (.inr rfl)⟩
        · exact ⟨hsub.subset h, pin_t.mpr (.inl (mem_t.mpr h))⟩
      · rintro ⟨_, h⟩
        rcases pin_t.mp h with h | h
        · exact .inr (mem_t.mp h)
        · exact .inl h
    have r1 : Rg Γ H H1 := .of_same G.caches s1
    have G1 := G.step r1
    have sub1 : ys.Sublist i.E := by rw [ey]; exact List.filter_sublist
    have lys := sub1.length_le
    refine ⟨_, rfl, a, dx, _, rfl, s1 _ _ hob, famF_no _ _ _ (by decide +kernel) (by decide +kernel) (by decide +kernel), _, rfl, ?_⟩
    refine ⟨Γ, a, W, i, ys, rfl, G1, g, hd, hW1, sub1, fun H2 r2 => ⟨_, rfl, W, txs ys, rfl, .inr (SqT.of (r2.st.tup hW1)), rfl, _, rfl, ?_⟩⟩
    rw [List.length_map, decInt]
    have frE : Fr i.E i.r (pin (mem xs) x) ↔ i.r ys = ys.length := by
      unfold Fr crd; rw [← ey]
    have r02 := r1.trans r2
    have hW2 := r2.st.tup hW1
    by_cases fr : i.r ys = ys.length
    · rw [decide_eq_true fr]
      exact iteT (k1 (frE.mpr fr) H2 r02)
    · rw [decide_eq_false fr]
      refine iteF ⟨_, rfl, W, rfl, ⟨_, SqT.of hW2⟩, fun D hD => ?_⟩
      have G2 := G.step r02
      refine lcV (H0 := H2) (rg_frm G2.caches) (src_tup fun H' r => SqT.of (r.st.tup hW2)) (fun m => decide (i.r (i.E.filter (pdel (pin (mem xs) x) (ys.getD m e0))) = xs.length)) (fun m => .str (ys.getD m e0)) (by simp; omega) (fun x => rfl) hD (Rg.put G2.caches (.refl G2.caches) hD) ?_ ?_ ?_
      · intro m y H3 Qb hm r q
        obtain ⟨z, hz, rfl⟩ := txs_at hm
        have G3 := G2.step r
        refine ⟨_, rfl, a, dx, _, rfl, r.st.ins (r02.st.ins hob), famF_no _ _ _ (by decide +kernel) (by decide +kernel) (by decide +kernel), _, rfl, _, rfl, len1, fun t ht => ?_⟩
        have s3 : Same H3 (upd H3 t (.tup [.str z])) := same_new ht
        refine ⟨W, t, ys, [z], rfl, SqT.of (s3 _ _ (r.st.tup hW2)), SqT.of upd_same, by omega, fun H4 v s4 hv hv4 => ?_⟩
        have e4 : ys.filter (fun u => !mem [z] u) = i.E.filter (pdel (pin (mem xs) x) z) := by
          rw [ey, List.filter_filter]
          refine List.filter_congr fun u _ => ?_
          show (!mem [z] u && pin (mem xs) x u) = (pin (mem xs) x u && !decide (u = z))
          rw [Bool.and_comm]
          unfold mem
          simp
        rw [e4] at hv4
        have r4 : Rg Γ H3 H4 := .of_same G3.caches (s3.trans s4)
        refine ⟨Γ, a, v, i, _, rfl, G3.step r4, g, hd, hv4, List.filter_sublist, fun H5 r5 => ⟨_, rfl, l, txs xs, rfl, .inr (SqT.of (r5.st.tup (r4.st.tup (r.st.tup (r02.st.tup hl))))), rfl, _, rfl, ?_⟩⟩
        rw [List.length_map, decInt, ← getD_at (d := e0) hz]
        exact q H5 (r4.trans r5)
      · intro m y H3 Qv hm _ r q
        obtain ⟨z, hz, rfl⟩ := txs_at hm
        refine ⟨_, rfl, ?_⟩
        rw [← getD_at (d := e0) hz]
        exact q H3 (.refl r.ca)
      · intro H3 r hd3
        refine ⟨D, _, rfl, .inl ⟨SqL.of hd3, fun t ht => ?_⟩⟩
        have n2 := r.free ht
        refine k2 (fun z => fr (frE.mp z)) _ t (r02.trans (Rg.put G2.caches r n2)) (r02.free n2) ?_
        rw [upd_same, List.length_map, picks_filter V.str e0 (fun z => decide (i.r (i.E.filter (pdel (pin (mem xs) x) z)) = xs.length)) ys, ey]
end
end BF
set_option Elab.async false
set_option linter.all false
set_option maxRecDepth 100000
set_option maxHeartbeats 4000000
/-! Partings on the heap; in_the_way. -/
namespace BF
open PySem PySem.Spec PyProof.Rows L2
abbrev SL (L : List (List Str)) : Sts Str := fun t => mem (L.getD t [])
structure GoodL (E : List Str) (r : List Str → Nat) (k : Nat) (L : List (List Str)) : Prop where
  good : GoodS E r k (SL L)
  len : L.length = k
  nd : ∀ l ∈ L, l.Nodup
  inE : ∀ l ∈ L, ∀ x ∈ l, x ∈ E
def UnitAt (H : Hp) (v : V) (x : Str) : Prop := ∃ u, v = .ref u ∧ H u = some (.tup [.str x, .int 0])
theorem UnitAt.stp {Γ : Gh} {H H' : Hp} (s : Stp Γ H H') {v : V} {x : Str} (h : UnitAt H v x) : UnitAt H' v x := let ⟨u, e, h⟩ := h; ⟨u, e, s.tup h⟩
theorem UnitAt.same {H H' : Hp} (s : Same H H') {v : V} {x : Str} (h : UnitAt H v x) : UnitAt H' v x := let ⟨u, e, h⟩ := h; ⟨u, e, s _ _ h⟩
def partF (fl ll : Addr) : List (Str × V) := [("families", .ref fl), ("lots", .ref ll)]
def LotU (H : Hp) (b : Addr) (l : List Str) : Prop := ∃ us, H b = some (.lst us) ∧ Paired (UnitAt H) us l
structure PartAt (K : PySem.W.Frag) (H : Hp) (s a fl ll : Addr) (k : Nat) (lvs : List Addr) (L : List (List Str)) : Prop where
  ob : ∃ dx, H s = some (.ins (He.ga K "Parting") dx (partF fl ll))
  fm : H fl = some (.lst (List.replicate k (.ref a)))
  lt : H ll = some (.lst (lvs.map V.ref))
  ln : lvs.length = k
  nd : lvs.Nodup
  nf : fl ∉ lvs
  nl : ll ∉ lvs
  ls : Paired (LotU H) lvs L
theorem LotU.stp {Γ : Gh} {H H' : Hp} (s : Stp Γ H H') {b : Addr} {l : List Str} (h : LotU H b l) : LotU H' b l := let ⟨us, h1, h2⟩ := h; ⟨us, s.lst h1, Paired.imp (fun _ _ q => q.stp s) h2⟩
theorem PartAt.stp {K : PySem.W.Frag} {Γ : Gh} {H H' : Hp} {s a fl ll : Addr} {k : Nat} {lvs : List Addr} {L : List (List Str)} (S : Stp Γ H H') (h : PartAt K H s a fl ll k lvs L) : PartAt K H' s a fl ll k lvs L :=
  ⟨let ⟨dx, q⟩ := h.ob; ⟨dx, S.ins q⟩, S.lst h.fm, S.lst h.lt, h.ln, h.nd, h.nf, h.nl, Paired.imp (fun _ _ q => q.stp S) h.ls⟩
/-- all but the lots of a parting and the caches stays -/
structure Pl (Γ : Gh) (lvs : List Addr) (H H' : Hp) : Prop where
  st : ∀ b o, b ∉ lvs → H b = some o → H' b = some o ∨ ((∃ kvs, o = .dT kvs) ∧ ∃ a i, Γ a = some i ∧ i.d = b)
  ca : Caches Γ H'
theorem Pl.of_rg {Γ : Gh} {lvs : List Addr} {H H' : Hp} (r : Rg Γ H H') : Pl Γ lvs H H' := ⟨fun b o _ h => r.st b o h, r.ca⟩
theorem Pl.trans {Γ : Gh} {lvs : List Addr} {H H1 H2 : Hp} (a : Pl Γ lvs H H1) (b : Pl Γ lvs H1 H2) : Pl Γ lvs H H2 := ⟨fun c o n h => by
  rcases a.st c o n h with q | q
  · exact b.st c o n q
  · exact .inr q, b.ca⟩
/-- seen from a heap that had no lots -/
theorem Pl.rg {Γ : Gh} {lvs : List Addr} {H0 H H' : Hp} (n0 : ∀ b ∈ lvs, H0 b = none) (r : Rg Γ H0 H) (p : Pl Γ lvs H H') : Rg Γ H0 H' := ⟨fun b o h => by
  rcases r.st b o h with q | q
  · exact p.st b o (fun m => by rw [n0 b m] at h; cases h) q
  · exact .inr q, p.ca⟩
theorem Pl.lst {Γ : Gh} {lvs : List Addr} {H H' : Hp} (p : Pl Γ lvs H H') {b : Addr} {xs : List V} (n : b ∉ lvs) (h : H b = some (.lst xs)) : H' b = some (.lst xs) := by
  rcases p.st b _ n h with q | ⟨⟨_, q⟩, _⟩
  · exact q
  · cases q
theorem Pl.tup {Γ : Gh} {lvs : List Addr} {H H' : Hp} (p : Pl Γ lvs H H') {b : Addr} {xs : List V} (n : b ∉ lvs) (h : H b = some (.tup xs)) : H' b = some (.tup xs) := by
  rcases p.st b _ n h with q | ⟨⟨_, q⟩, _⟩
  · exact q
  · cases q
theorem Pl.dK {Γ : Gh} {lvs : List Addr} {H H' : Hp} (p : Pl Γ lvs H H') {b : Addr} {xs : List (Key × V)} (n : b ∉ lvs) (h : H b = some (.dK xs)) : H' b = some (.dK xs) := by
  rcases p.st b _ n h with q | ⟨⟨_, q⟩, _⟩
  · exact q
  · cases q
theorem Pl.ins {Γ : Gh} {lvs : List Addr} {H H' : Hp} (p : Pl Γ lvs H H') {b C dx : Addr} {fs : List (Str × V)} (n : b ∉ lvs) (h : H b = some (.ins C dx fs)) : H' b = some (.ins C dx fs) := by
  rcases p.st b _ n h with q | ⟨⟨_, q⟩, _⟩
  · exact q
  · cases q
theorem partF_f (fl ll : Addr) : (partF fl ll).lookup ("families" : Str) = some (.ref fl) := lk2a
theorem partF_l (fl ll : Addr) : (partF fl ll).lookup ("lots" : Str) = some (.ref ll) := lk2b (by decide +kernel)
section
variable {X : Cx}
theorem ixTup (K : PySem.W.Frag) (h : X.K = K := by rfl) : IxR X (rIxT K) := by subst h; exact ix_tup
theorem ixList (K : PySem.W.Frag) (h : X.K = K := by rfl) : IxR X (rIxL K) := by subst h; exact ix_list
end
/-! ### who stands in a lot -/
def standF : List Str → List V → List (Key × V)
  | x :: l, v :: us => (.inr x, v) :: standF l us
  | _, _ => []
theorem standF_keys : ∀ {l : List Str} {us : List V}, us.length = l.length → (standF l us).map (·.1) = l.map Sum.inr
  | [], [], _ => rfl
  | x :: l, v :: us, h => by
    show Sum.inr x :: _ = _
    rw [standF_keys (by simpa using h)]; rfl
theorem standF_val {F : V → Str → Prop} : ∀ {l : List Str} {us : List V} {x : Str}, Paired F us l → x ∈ l → ∃ v, valV (standF l us) (Sum.inr x : Key) = some v ∧ F v x
  | y :: l, v :: us, x, .cons a t, h => by
    by_cases e : y = x
    · subst e; exact ⟨v, valV_pos rfl, a⟩
    · rcases List.mem_cons.mp h with q | q
      · exact absurd q.symm e
      · obtain ⟨w, h1, h2⟩ := standF_val t q
        exact ⟨w, by show valV ((Sum.inr y, v) :: standF l us) _ = _; rw [valV_neg (fun z => e (Sum.inr.inj z))]; exact h1, h2⟩
theorem standF_range : ∀ (l : List Str) (us : List V), us.length = l.length → (List.range l.length).map (fun i => ((Sum.inr (l.getD i e0) : Key), us.getD i .non)) = standF l us
  | [], [], _ => rfl
  | x :: l, v :: us, h => by
    rw [List.length_cons, List.range_succ_eq_map, List.map_cons, List.map_map]
    show _ = (Sum.inr x, v) :: standF l us
    rw [← standF_range l us (by simpa using h)]
    rfl
theorem paired_map {β γ : Type} {F : γ → β → Prop} (g : β → γ) : ∀ (xs : List β), (∀ x ∈ xs, F (g x) x) → Paired F (xs.map g) xs
  | [], _ => .nil
  | x :: xs, h => .cons (h x List.mem_cons_self) (paired_map g xs fun y hy => h y (List.mem_cons_of_mem _ hy))
def spWay (K : PySem.W.Frag) (n : Nat) : Sp := fun vs H Q _ => ∃ (Γ : Gh) (s a fl ll u : Addr) (k idx : Nat) (lvs : List Addr) (L : List (List Str)) (i : FInfo) (x : Str), vs = [.ref s, .int idx, .ref u] ∧ Good K Γ H ∧ Γ a = some i ∧ i.dep < n ∧ PartAt K H s a fl ll k lvs L ∧ GoodL i.E i.r k L ∧
  idx < k ∧ H u = some (.tup [.str x, .int 0]) ∧ x ∈ i.E ∧ SL L idx x = false ∧
  (Ready i.E i.r (SL L) idx x → ∀ H', Rg Γ H H' → Q .non H') ∧
  (¬ Ready i.E i.r (SL L) idx x → ∀ H' p us ys, Rg Γ H H' → H' p = some (.lst us) → H p = none → Paired (UnitAt H') us ys → ys.length ≤ 14 → (∀ y ∈ ys, y ∈ i.E ∧ Arc i.E i.r (SL L) idx x y) → (∀ y ∈ i.E, Arc i.E i.r (SL L) idx x y → y ∈ ys) → Q (.ref p) H')
theorem sc_Parting_in_the_way : FnScope ["self", "index", "unit", "standing", "ring", "other", "thing"] ["self", "index", "unit"] (defScope s_Parting_in_the_way) := ⟨rfl, rfl, rfl, by decide +kernel, rfl, by decide +kernel, by decide +kernel⟩
/-- the ring's things, told as arcs -/
theorem ring_arc {E : List Str} {r : List Str → Nat} {k : Nat} {L : List (List Str)} {idx : Nat} {x : Str} (m : Mat E r) (G : GoodL E r k L) (hi : idx < k) {l : List Str} (hl : L[idx]? = some l) (hx : x ∈ E) (hn : SL L idx x = false) (nf : ¬ Fr E r (pin (mem l) x)) {z : Str} (hz : z ∈ E) (zx : z ≠ x) :
    (pin (mem l) x z = true ∧ r (E.filter (pdel (pin (mem l) x) z)) = l.length) ↔ Arc E r (SL L) idx x z := by
  have e : SL L idx = mem l := by unfold SL; rw [getD_at hl]
  have hlm : l ∈ L := List.mem_of_getElem? hl
  have cl : crd E (mem l) = l.length := by
    have : (E.filter (mem l)).Perm l := (List.perm_ext_iff_of_nodup (m.nd.filter _) (G.nd l hlm)).mpr fun y => by
      rw [List.mem_filter]
      exact ⟨fun h => mem_t.mp h.2, fun h => ⟨G.inE l hlm y h, mem_t.mpr h⟩⟩
    unfold crd; exact this.length_eq
  have hn' : mem l x = false := by rw [← e]; exact hn
  have cp := crd_pin m.nd hx hn'
  unfold Arc
  rw [e]
  constructor
  · rintro ⟨h1, h2⟩
    have h1' : mem l z = true := by
      rcases pin_t.mp h1 with q | q
      · exact q
      · exact absurd q zx
    refine ⟨hn', h1', nf, ?_⟩
    have := crd_pdel m.nd hz h1
    unfold Fr
    omega
  · rintro ⟨_, h1, _, h2⟩
    have h3 : pin (mem l) x z = true := pin_t.mpr (.inl h1)
    have := crd_pdel m.nd hz h3
    unfold Fr at h2
    exact ⟨h3, by omega⟩
section
variable {P : Program} {w : World} {K : PySem.W.Frag} {mg : Str → Option Value} {base : Heap}
theorem ok_in_the_way (T : TX K mg) (n : Nat) : FOk P w K mg base (2 * n + 3) ("Parting", some "in_the_way") ["self", "index", "unit"] (spWay K n) := by
  refine T.fn 19 (d := d_Parting_in_the_way) rfl rfl rfl sc_Parting_in_the_way (fun vs H Q E h => ?_) (fun _ _ _ _ _ _ us hl => match us, hl with | [_, _, _], _ => rfl) (fun cdv A outer s H vs Q E hr h => ?_)
  · obtain ⟨Γ, s, a, fl, ll, u, k, idx, lvs, L, i, x, rfl, _⟩ := h; rfl
  · obtain ⟨Γ, s, a, fl, ll, u, k, idx, lvs, L, i, x, rfl, G, g, hd, Pa, GL, hi, hu1, hxE, hno, k1, k2⟩ := h
    have nd := sc_Parting_in_the_way.nd
    have hu := hu_of hr
    refine ⟨_, pss_cons (ps_set (i := 3) nd rfl (Or.inr rfl) (pe_dc (own := [("other", 5)]) (g := gName 5) rfl nd (pi_list (pe_ix ix_list (pe_fld (pv 0) rfl) (pv 1) (fun _ _ => rfl))) (blkOk_by (N := ["self", "index", "unit", "standing", "ring", "other", "thing"]) (sc := defScope s_Parting_in_the_way) (by decide +kernel)) (fun _ _ _ _ _ => pg_name (i := 5) nd rfl (Or.inl rfl))
        (fun _ _ _ _ _ => pts_nil) (fun _ _ _ _ _ => pe_ix (ixTup K) (pv 5) pe_int (fun _ _ => rfl)) (fun _ _ _ _ _ => pv 5)))
      (pss_cons (ps_if (pt_cmp (pc_din hu (pe_ix ix_tup (pv 2) pe_int (fun _ _ => rfl)) (pv 3))) pss_never pss_nil)
      (pss_cons (ps_set (i := 4) nd rfl (Or.inl rfl) (pe_cl (ok_ring_within T n) hr T.g_ring_within (pa_cons (pe_ix ix_list (pe_fld (pv 0) rfl) (pv 1) (fun _ _ => rfl))
          (pa_cons (pe_callTy call_tuple_of (by rfl) T.f_tuple (by decide +kernel) (pa_cons (pe_callB cr_sortedS (by rfl) T.f_sorted (by decide +kernel) (pa_cons (pe_callTy (call_listD rfl) (by rfl) T.f_list (by decide +kernel) (pa_cons (pv 3) pa_nil)) pa_nil)) pa_nil))
          (pa_cons (pe_ix ix_tup (pv 2) pe_int (fun _ _ => rfl)) pa_nil)))))
      (pss_cons (ps_if (pt_cmp (pc_isN (pv 4))) (pss_one (ps_ret pe_non)) pss_nil)
      (pss_one (ps_ret (pe_lc (own := [("thing", 6)]) (g := gName 6) rfl nd (pi_tup (pv 4)) (blkOk_by (N := ["self", "index", "unit", "standing", "ring", "other", "thing"]) (sc := defScope s_Parting_in_the_way) (by decide +kernel)) (fun _ _ _ _ _ => pg_name (i := 6) nd rfl (Or.inl rfl))
          (fun _ _ _ _ _ => pts_one (pt_cmpR op_ne (pv 6) (pe_ix (ixTup K) (pv 2) pe_int (fun _ _ => rfl)) (by rfl))) (fun _ _ _ _ _ => pe_dget hu (pv 3) (pv 6) (fun _ _ => rfl)))))))), ?_⟩
    obtain ⟨dx, hob⟩ := Pa.ob
    have hil : idx < lvs.length := by rw [Pa.ln]; exact hi
    obtain ⟨l, hl, us, hb, pu⟩ := paired_at Pa.ls (List.getElem?_eq_getElem hil)
    have hlv : lvs[idx]? = some lvs[idx] := List.getElem?_eq_getElem hil
    have hlm : l ∈ L := List.mem_of_getElem? hl
    have eS : SL L idx = mem l := by unfold SL; rw [getD_at hl]
    have ndl := GL.nd l hlm
    have F := G.fam a i g
    have few := F.few
    have ndE := F.mat.nd
    have lens : us.length = l.length := Paired.length pu
    have xnl : x ∉ l := fun q => by rw [eS] at hno; rw [mem_t.mpr q] at hno; cases hno
    have pE : (i.E.filter (mem l)).Perm l := (List.perm_ext_iff_of_nodup (ndE.filter _) ndl).mpr fun y => by
      rw [List.mem_filter]
      exact ⟨fun h => mem_t.mp h.2, fun h => ⟨GL.inE l hlm y h, mem_t.mpr h⟩⟩
    have ll14 : l.length ≤ 14 := by rw [← pE.length_eq]; exact Nat.le_trans (List.length_filter_le _ _) few
    refine ⟨_, rfl, s, _, dx, _, _, rfl, hob, T.cl_Parting, T.na_Parting_lots, partF_l _ _, _, rfl, ll, _, (idx : Int), .ref lvs[idx], rfl, rfl, SqL.of Pa.lt, atI_nat (by rw [List.getElem?_map, hlv]; rfl), lvs[idx], rfl, ⟨_, SqL.of hb⟩, fun D hD => ?_⟩
    refine dcK (H0 := H) (src_list fun H' r => SqL.of (r _ _ hb)) (fun _ => true) (fun m => .inr (l.getD m e0)) (fun m v _ => v = us.getD m .non) (by omega) (fun _ _ _ _ h _ => h) (fun _ _ _ _ _ h _ => h) (fun i j hji hi _ _ q => ?_) (fun x => rfl) hD (same_new hD) ?_ ?_ ?_
    · have e := Sum.inr.inj q
      rw [List.getD_eq_getElem?_getD, List.getD_eq_getElem?_getD, List.getElem?_eq_getElem (by omega), List.getElem?_eq_getElem (by omega)] at e
      have := (List.getElem_inj ndl).mp e
      omega
    · intro m v H1 Qb hm r q
      exact q H1 (Same.refl _)
    · intro m v H1 Qv hm _ r q
      obtain ⟨y, hy, u2, rfl, hu2⟩ := paired_at pu hm
      refine ⟨_, rfl, u2, _, 0, _, rfl, rfl, SqT.of (r _ _ hu2), atI_nat (j := 0) rfl, _, rfl, ?_⟩
      have := q (.ref u2) H1 (Same.refl _) (getD_at hm).symm
      rw [getD_at (d := e0) hy] at this
      exact this
    · intro H1 kvs s1 hD1 pk
      have ek : kvs = standF l us := by
        have := Paired.fn (Paired.imp (G := fun m p => p = ((Sum.inr (l.getD m e0) : Key), us.getD m V.non)) (fun m p h => Prod.ext h.1 h.2) pk)
        rw [this, picks_all, lens]
        exact standF_range l us lens
      subst ek
      have vnone : valV (standF l us) (Sum.inr x : Key) = none := by
        apply valV_keys
        rw [standF_keys lens]
        intro q
        obtain ⟨y, hy, e⟩ := List.mem_map.mp q
        cases e
        exact xnl hy
      have g1 := DGet.k (k := .inr x) hD1
      rw [vnone] at g1
      refine ⟨_, rfl, u, _, 0, _, rfl, rfl, SqT.of (s1 _ _ hu1), atI_nat (j := 0) rfl, _, rfl, D, _, rfl, g1, _, rfl, iteF ?_⟩
      refine ⟨_, rfl, s, _, dx, _, _, rfl, s1 _ _ hob, T.cl_Parting, T.na_Parting_families, partF_f _ _, _, rfl, fl, _, (idx : Int), .ref a, rfl, rfl, SqL.of (s1 _ _ Pa.fm), atI_nat (by rw [List.getElem?_replicate, if_pos hi]), ?_⟩
      refine ⟨_, rfl, D, _, rfl, .inl hD1, fun p hp => ?_⟩
      have ekeys : ((standF l us).map fun kv => kV kv.1) = txs l := by
        have := congrArg (List.map kV) (standF_keys lens)
        rw [List.map_map, List.map_map] at this
        exact this
      rw [ekeys]
      have s2 : Same H1 (upd H1 p (.lst (txs l))) := same_new hp
      refine ⟨p, l, rfl, SqL.of upd_same, by omega, fun ys q pm srt hq => ⟨q, txs ys, rfl, .inl ⟨SqL.of upd_same, fun t ht => ?_⟩⟩⟩
      have s3 : Same H1 (upd (upd H1 p (.lst (txs l))) q (.lst (txs ys))) := same_put s2 (s2.free hq)
      have s4 : Same H1 (upd (upd (upd H1 p (.lst (txs l))) q (.lst (txs ys))) t (.tup (txs ys))) := same_put s3 (s3.free ht)
      have ht2 : (upd (upd (upd H1 p (.lst (txs l))) q (.lst (txs ys))) t (.tup (txs ys))) t = some (.tup (txs ys)) := upd_same
      generalize (upd (upd (upd H1 p (.lst (txs l))) q (.lst (txs ys))) t (.tup (txs ys))) = H2 at s4 ht2 ⊢
      have s5 : Same H H2 := s1.trans s4
      have ey : ys = i.E.filter (mem l) := sorted_eq (pm.trans pE.symm) srt (sorted_sub List.filter_sublist F.srt)
      have em : mem ys = mem l := by
        funext z
        have : z ∈ ys ↔ z ∈ l := pm.mem_iff
        unfold mem
        by_cases h : z ∈ ys
        · rw [decide_eq_true h, decide_eq_true (this.mp h)]
        · rw [decide_eq_false h, decide_eq_false (fun q => h (this.mpr q))]
      have ly : ys.length = l.length := pm.length_eq
      have r2 : Rg Γ H H2 := .of_same G.caches s5
      refine ⟨_, rfl, u, _, 0, _, rfl, rfl, SqT.of (s5 _ _ hu1), atI_nat (j := 0) rfl, ?_⟩
      refine ⟨Γ, a, t, i, ys, x, rfl, G.step r2, g, hd, ht2, by rw [ey]; exact List.filter_sublist, hxE, fun q => xnl (pm.mem_iff.mp q), fun fr H3 r3 => ?_, fun nfr H3 z r3 hz hz3 => ?_⟩
      · rw [em] at fr
        refine ⟨_, rfl, _, rfl, ?_⟩
        refine ifT (decide_eq_true rfl) (k1 ⟨hno, by rw [eS]; exact fr⟩ H3 (r2.trans r3))
      · rw [em] at nfr hz3
        rw [ly] at hz3
        refine ⟨_, rfl, _, rfl, ?_⟩
        refine ifF (decide_eq_false fun q => nomatch q) ?_
        have r03 := r2.trans r3
        have nready : ¬ Ready i.E i.r (SL L) idx x := fun q => nfr (by have := q.2; rw [eS] at this; exact this)
        -- the ring
        generalize hzs : (i.E.filter (pin (mem l) x)).filter (fun z => decide (i.r (i.E.filter (pdel (pin (mem l) x) z)) = l.length)) = zs at hz3
        have zin : ∀ y, y ∈ zs ↔ y ∈ i.E ∧ pin (mem l) x y = true ∧ i.r (i.E.filter (pdel (pin (mem l) x) y)) = l.length := fun y => by
          rw [← hzs, List.mem_filter, List.mem_filter]
          exact ⟨fun h => ⟨h.1.1, h.1.2, of_decide_eq_true h.2⟩, fun h => ⟨⟨h.1, h.2.1⟩, decide_eq_true h.2.2⟩⟩
        have lz : zs.length ≤ 14 := by
          rw [← hzs]
          exact Nat.le_trans (List.length_filter_le _ _) (Nat.le_trans (List.length_filter_le _ _) few)
        refine ⟨_, rfl, z, rfl, ⟨_, SqT.of hz3⟩, fun M hM => ?_⟩
        have hD3 := r3.st.dK (s4 _ _ hD1)
        have in_l : ∀ y ∈ zs, y ≠ x → y ∈ l := fun y hy ne => by
          rcases pin_t.mp ((zin y).mp hy).2.1 with q | q
          · exact mem_t.mp q
          · exact absurd q ne
        refine lcV (H0 := H3) (same_frm H3) (src_tup fun H' r => SqT.of (r _ _ hz3)) (fun m => decide (zs.getD m e0 ≠ x)) (fun m => (valV (standF l us) (Sum.inr (zs.getD m e0) : Key)).getD .non) (by simp; omega) (fun x => rfl) hM (same_new hM) ?_ ?_ ?_
        · intro m v H4 Qb hm r4 q4
          obtain ⟨y, hy, rfl⟩ := txs_at hm
          refine ⟨_, rfl, _, rfl, u, _, 0, _, rfl, rfl, SqT.of (r4 _ _ (r03.st.tup hu1)), atI_nat (j := 0) rfl, rfl, _, rfl, ?_⟩
          have : (!decide (V.str y = V.str x)) = decide (zs.getD m e0 ≠ x) := by
            rw [getD_at (d := e0) hy]
            by_cases e : y = x
            · rw [e]; simp
            · rw [decide_eq_false (fun z => e (by injection z)), decide_eq_true e]; rfl
          rw [this]
          exact q4 H4 (Same.refl _)
        · intro m v H4 Qv hm fm r4 q4
          obtain ⟨y, hy, rfl⟩ := txs_at hm
          have hyz := List.mem_of_getElem? hy
          rw [getD_at (d := e0) hy] at fm
          obtain ⟨v, hv, _⟩ := standF_val pu (in_l y hyz (of_decide_eq_true fm))
          have g4 := DGet.k (k := .inr y) (r4 _ _ hD3)
          rw [hv] at g4
          refine ⟨_, rfl, _, rfl, D, v, rfl, g4, ?_⟩
          have := q4 H4 (Same.refl _)
          rw [getD_at (d := e0) hy, hv] at this
          exact this
        · intro H4 r4 hd4
          rw [List.length_map, picks_filter (fun y => (valV (standF l us) (Sum.inr y : Key)).getD .non) e0 (fun y => decide (y ≠ x)) zs] at hd4
          have r04 : Rg Γ H H4 := r03.same r4
          refine k2 nready H4 M _ (zs.filter fun y => decide (y ≠ x)) r04 hd4 (r03.free hM) ?_ (Nat.le_trans (List.length_filter_le _ _) lz) (fun y hy => ?_) (fun y hyE hA => ?_)
          · refine paired_map _ _ fun y hy => ?_
            obtain ⟨h1, h2⟩ := List.mem_filter.mp hy
            obtain ⟨v, hv, hU⟩ := standF_val pu (in_l y h1 (of_decide_eq_true h2))
            rw [hv]
            exact UnitAt.stp r04.st hU
          · obtain ⟨h1, h2⟩ := List.mem_filter.mp hy
            obtain ⟨h3, h4⟩ := (zin y).mp h1
            exact ⟨h3, (ring_arc F.mat GL hi hl hxE hno nfr h3 (of_decide_eq_true h2)).mp h4⟩
          · have ne : y ≠ x := fun e => by
              have := hA.2.1
              rw [e, hno] at this; cases this
            exact List.mem_filter.mpr ⟨(zin y).mpr ⟨hyE, (ring_arc F.mat GL hi hl hxE hno nfr hyE ne).mpr hA⟩, decide_eq_true ne⟩
end
end BF
set_option Elab.async false
set_option linter.all false
set_option maxRecDepth 100000
set_option maxHeartbeats 4000000
/-! Units as data; shift. -/
namespace BF
open PySem PySem.Spec PyProof.Rows L2
def unitD (x : Str) : PyData := .tuple [.str x, .int 0]
theorem letters_small : ∀ c ∈ letters.cps.toList, c < 1114112 := by decide +kernel
theorem good_ok {x : Str} (h : good x = true) : PyData.strOk x = true := by
  unfold good at h
  rw [Bool.and_eq_true] at h
  have h2 := List.all_eq_true.mp h.2
  unfold PyData.strOk
  rw [Array.all_eq_true']
  intro c hc
  exact decide_eq_true (letters_small c (of_decide_eq_true (h2 c (Array.mem_toList_iff.mpr hc))))
theorem unit_shaped {x : Str} (h : PyData.strOk x = true) : SeqAt.shaped (unitD x) = true := by
  unfold unitD SeqAt.shaped
  simp [PyData.canLay0, PyData.canLayAll0, PyData.depth, PyData.depthAll, h]
theorem units_shaped : ∀ l : List Str, (∀ x ∈ l, PyData.strOk x = true) → SeqAt.shaped (.list (l.map unitD)) = true := by
  intro l hok
  unfold SeqAt.shaped
  rw [Bool.and_eq_true]
  constructor
  · induction l with
    | nil => simp [PyData.canLay0, PyData.canLayAll0]
    | cons x l ih =>
      have h1 := hok x List.mem_cons_self
      have h2 := ih fun y hy => hok y (List.mem_cons_of_mem _ hy)
      simp only [PyData.canLay0] at h2 ⊢
      simp [PyData.canLay0, PyData.canLayAll0, unitD, h1]
      exact h2
  · apply decide_eq_true
    have : PyData.depthAll (l.map unitD) ≤ 3 := by
      clear hok
      induction l with
      | nil => simp [PyData.depthAll]
      | cons x l ih => simp [PyData.depthAll, unitD, PyData.depth] at ih ⊢; omega
    simp only [PyData.depth]
    omega
theorem unit_eqv (x y : Str) : PyData.eqv (unitD x) (unitD y) = decide (x = y) := by
  simp only [unitD, PyData.eqv, PyData.eqvAll]
  by_cases h : x = y
  · subst h; simp
  · simp [h]
theorem unit_dp {K : PySem.W.Frag} {H : Hp} {v : V} {x : Str} (h : UnitAt H v x) : Dp K H v (unitD x) := by
  obtain ⟨u, rfl, h⟩ := h
  exact .tup (SqT.of h) (.cons (.str x) (.cons (.int 0) .nil))
theorem units_dp {K : PySem.W.Frag} {H : Hp} : ∀ {us : List V} {l : List Str}, Paired (UnitAt H) us l → DpAll K H us (l.map unitD)
  | _, _, .nil => .nil
  | _, _, .cons a t => .cons (unit_dp a) (units_dp t)
/-! ### came -/
def LinkV (H : Hp) (v : V) : Option (Str × Nat) → Prop
  | none => v = .non
  | some (y, j) => ∃ t u, v = .ref t ∧ H t = some (.tup [.ref u, .int j]) ∧ H u = some (.tup [.str y, .int 0])
abbrev uK (x : Str) : List Key := [.inr x, .inl 0]
def CEnt (H : Hp) (p : List Key × V) (e : Str × Option (Str × Nat)) : Prop := p.1 = uK e.1 ∧ LinkV H p.2 e.2
def CameAt (H : Hp) (c : Addr) (C : Came Str) : Prop := ∃ kvs, H c = some (.dT kvs) ∧ Paired (CEnt H) kvs C
theorem uK_inj {x y : Str} (h : uK x = uK y) : x = y := by
  injection h with h _
  exact Sum.inr.inj h
theorem LinkV.same {H H' : Hp} (s : ∀ b xs, H b = some (.tup xs) → H' b = some (.tup xs)) {v : V} {q : Option (Str × Nat)} (h : LinkV H v q) : LinkV H' v q := by
  cases q with
  | none => exact h
  | some q => obtain ⟨t, u, e, h1, h2⟩ := h; exact ⟨t, u, e, s _ _ h1, s _ _ h2⟩
theorem came_val {H : Hp} : ∀ {kvs : List (List Key × V)} {C : Came Str} {x : Str} {q : Option (Str × Nat)}, Paired (CEnt H) kvs C → (C.map (·.1)).Nodup → (x, q) ∈ C → ∃ v, valV kvs (uK x) = some v ∧ LinkV H v q
  | _, _, _, _, .nil, _, h => by cases h
  | p :: kvs, e :: C, x, q, .cons a t, nd, h => by
    rw [List.map_cons, List.nodup_cons] at nd
    by_cases z : e.1 = x
    · have : (x, q) = e := by
        rcases List.mem_cons.mp h with h | h
        · exact h
        · exact absurd (List.mem_map.mpr ⟨_, h, z.symm⟩) nd.1
      subst this
      exact ⟨p.2, valV_pos a.1, a.2⟩
    · rcases List.mem_cons.mp h with h | h
      · rw [← h] at z; exact absurd rfl z
      · obtain ⟨v, h1, h2⟩ := came_val t nd.2 h
        exact ⟨v, by rw [valV_neg (fun w => z (uK_inj (a.1.symm.trans w)))]; exact h1, h2⟩
theorem came_none {H : Hp} : ∀ {kvs : List (List Key × V)} {C : Came Str} {x : Str}, Paired (CEnt H) kvs C → x ∉ C.map (·.1) → valV kvs (uK x) = none
  | _, _, _, .nil, _ => rfl
  | p :: kvs, e :: C, x, .cons a t, h => by
    rw [List.map_cons, List.mem_cons] at h
    rw [valV_neg (fun w => h (.inl (uK_inj (a.1.symm.trans w)).symm))]
    exact came_none t fun q => h (.inr q)
/-! ### a lot changes -/
theorem paired_set {β γ : Type} {F F' : β → γ → Prop} {z : γ} : ∀ {xs : List β} {ys : List γ} {i : Nat}, Paired F xs ys → (∀ j x y, j ≠ i → xs[j]? = some x → F x y → F' x y) → (∀ x, xs[i]? = some x → F' x z) → Paired F' xs (ys.set i z)
  | _, _, _, .nil, _, _ => .nil
  | x :: xs, y :: ys, 0, .cons a t, h, hi => .cons (hi x rfl) (by
      have := paired_set (i := xs.length) (z := z) t (fun j x y n e f => h (j + 1) x y (by omega) (by rw [List.getElem?_cons_succ]; exact e) f) (fun x e => by rw [List.getElem?_eq_none (Nat.le_refl _)] at e; cases e)
      rw [List.set_eq_of_length_le (by rw [Paired.length t]; exact Nat.le_refl _)] at this
      exact this)
  | x :: xs, y :: ys, i + 1, .cons a t, h, hi => .cons (h 0 x y (by omega) rfl a)
      (paired_set t (fun j x y n e f => h (j + 1) x y (by omega) (by rw [List.getElem?_cons_succ]; exact e) f) (fun x e => hi x (by rw [List.getElem?_cons_succ]; exact e)))
theorem PartAt.put {K : PySem.W.Frag} {H : Hp} {s a fl ll b : Addr} {k i : Nat} {lvs : List Addr} {L : List (List Str)} (h : PartAt K H s a fl ll k lvs L) (hb : lvs[i]? = some b) {us : List V} {l : List Str} (hu : Paired (UnitAt H) us l) : PartAt K (upd H b (.lst us)) s a fl ll k lvs (L.set i l) := by
  have hbm := List.mem_of_getElem? hb
  have hbl : ∃ vs, H b = some (.lst vs) := by
    obtain ⟨m, _, vs, h1, _⟩ := paired_at h.ls hb
    exact ⟨vs, h1⟩
  obtain ⟨vs, hbl⟩ := hbl
  have tup : ∀ c xs, H c = some (.tup xs) → upd H b (.lst us) c = some (.tup xs) := fun c xs e => by
    rw [upd_ne (fun q => by rw [q, hbl] at e; cases e)]; exact e
  have un : ∀ v x, UnitAt H v x → UnitAt (upd H b (.lst us)) v x := fun v x ⟨u, e, q⟩ => ⟨u, e, tup _ _ q⟩
  obtain ⟨dx, ho⟩ := h.ob
  refine ⟨⟨dx, by rw [upd_ne (fun q => by rw [q, hbl] at ho; cases ho)]; exact ho⟩, by rw [upd_ne (show fl ≠ b from fun q => h.nf (by rw [q]; exact hbm))]; exact h.fm, by rw [upd_ne (show ll ≠ b from fun q => h.nl (by rw [q]; exact hbm))]; exact h.lt, h.ln, h.nd, h.nf, h.nl, ?_⟩
  refine paired_set h.ls (fun j x y n e f => ?_) (fun x e => ?_)
  · obtain ⟨ws, h1, h2⟩ := f
    refine ⟨ws, ?_, Paired.imp un h2⟩
    rw [upd_ne (fun q => ?_)]
    · exact h1
    · rw [q] at e; exact n (nd_at h.nd e hb)
  · rw [hb] at e
    cases e
    exact ⟨us, upd_same, Paired.imp un hu⟩
theorem SL_set {L : List (List Str)} {i : Nat} {l : List Str} (h : i < L.length) : SL (L.set i l) = fun t => if t = i then mem l else SL L t := by
  funext t
  unfold SL
  by_cases e : t = i
  · subst e
    rw [if_pos rfl, List.getD_eq_getElem?_getD, List.getElem?_set_self h]; rfl
  · rw [if_neg e, List.getD_eq_getElem?_getD, List.getElem?_set_ne (Ne.symm e), ← List.getD_eq_getElem?_getD]
theorem mem_app (l : List Str) (x : Str) : mem (l ++ [x]) = pin (mem l) x := by
  funext y
  rw [Bool.eq_iff_iff, mem_t, pin_t, mem_t, List.mem_append, List.mem_singleton]
theorem mem_erase {l : List Str} (nd : l.Nodup) (x : Str) : mem (l.erase x) = pdel (mem l) x := by
  funext y
  rw [Bool.eq_iff_iff, mem_t, pdel_t, mem_t, List.Nodup.mem_erase_iff nd]
  exact ⟨fun h => ⟨h.2, h.1⟩, fun h => ⟨h.2, h.1⟩⟩
section
variable {E : List Str} {r : List Str → Nat} {k : Nat} {L : List (List Str)}
theorem GoodL.at (G : GoodL E r k L) {i : Nat} (hi : i < k) : L[i]? = some (L.getD i []) ∧ L.getD i [] ∈ L := by
  have hl : i < L.length := by rw [G.len]; exact hi
  have e : L.getD i [] = L[i] := by rw [List.getD_eq_getElem?_getD, List.getElem?_eq_getElem hl]; rfl
  rw [e]
  exact ⟨List.getElem?_eq_getElem hl, List.getElem_mem hl⟩
theorem GoodL.set (G : GoodL E r k L) {i : Nat} {l : List Str} (g : GoodS E r k (SL (L.set i l))) (nd : l.Nodup) (inE : ∀ x ∈ l, x ∈ E) : GoodL E r k (L.set i l) := by
  refine ⟨g, by rw [List.length_set]; exact G.len, fun m hm => ?_, fun m hm => ?_⟩
  · rcases List.mem_or_eq_of_mem_set hm with h | h
    · exact G.nd m h
    · rw [h]; exact nd
  · rcases List.mem_or_eq_of_mem_set hm with h | h
    · exact G.inE m h
    · rw [h]; exact inE
theorem put_lots (m : Mat E r) (G : GoodL E r k L) {x : Str} {i : Nat} (hx : x ∈ E) (hi : i < k) (ho : ∀ j, j < k → SL L j x = false) (R : Ready E r (SL L) i x) :
    GoodL E r k (L.set i (L.getD i [] ++ [x])) ∧ ∀ y, uni k (SL (L.set i (L.getD i [] ++ [x]))) y = (uni k (SL L) y || decide (y = x)) := by
  obtain ⟨_, hm⟩ := G.at hi
  have e : SL (L.set i (L.getD i [] ++ [x])) = putS (SL L) x i := by
    rw [SL_set (by rw [G.len]; exact hi)]
    funext t
    unfold putS
    by_cases q : t = i
    · subst q; rw [if_pos rfl, if_pos rfl, mem_app]
    · rw [if_neg q, if_neg q]
  have nx : x ∉ L.getD i [] := fun q => by
    have := ho i hi
    unfold SL at this
    rw [mem_t.mpr q] at this; cases this
  refine ⟨G.set (by rw [e]; exact m.putGood G.good hi ho R) ?_ ?_, fun y => ?_⟩
  · exact List.nodup_append.mpr ⟨G.nd _ hm, by simp, fun a ha b hb q => by
      have : b = x := by simpa using hb
      subst this; subst q; exact nx ha⟩
  · intro y hy
    rcases List.mem_append.mp hy with h | h
    · exact G.inE _ hm y h
    · rw [List.mem_singleton.mp h]; exact hx
  · rw [e, Bool.eq_iff_iff, uni_t, Bool.or_eq_true, uni_t, decide_eq_true_eq]
    constructor
    · rintro ⟨j, hj, h⟩
      unfold putS at h
      by_cases q : j = i
      · rw [if_pos q] at h
        rcases pin_t.mp h with h | h
        · exact .inl ⟨i, hi, h⟩
        · exact .inr h
      · rw [if_neg q] at h
        exact .inl ⟨j, hj, h⟩
    · rintro (⟨j, hj, h⟩ | rfl)
      · refine ⟨j, hj, ?_⟩
        unfold putS
        by_cases q : j = i
        · subst q; rw [if_pos rfl]; exact pin_t.mpr (.inl h)
        · rw [if_neg q]; exact h
      · refine ⟨i, hi, ?_⟩
        unfold putS
        rw [if_pos rfl]; exact pin_t.mpr (.inr rfl)
def mvL (L : List (List Str)) (x : Str) (j i : Nat) : List (List Str) := (L.set j ((L.getD j []).erase x)).set i (L.getD i [] ++ [x])
theorem mv_lots (m : Mat E r) (G : GoodL E r k L) {x y : Str} {i j : Nat} {l : List (Str × Nat)} (Pa : Path E r k (SL L) (x, i) ((y, j) :: l)) :
    GoodL E r k (mvL L x j i) ∧ Path E r k (SL (mvL L x j i)) (y, j) l ∧ (∀ z, uni k (SL (mvL L x j i)) z = uni k (SL L) z) ∧ x ∈ L.getD j [] ∧ j ≠ i ∧ i < k ∧ j < k := by
  obtain ⟨g, p, sj, hij⟩ := Pa.shift1 m G.good
  have sj : SL L j x = true := sj
  have hij : j ≠ i := hij
  obtain ⟨hx, hi⟩ := Pa.ins _ List.mem_cons_self
  obtain ⟨_, hj⟩ := Pa.ins _ (List.mem_cons_of_mem _ List.mem_cons_self)
  have hi : i < k := hi
  have hj : j < k := hj
  have hx : x ∈ E := hx
  obtain ⟨_, hmi⟩ := G.at hi
  obtain ⟨_, hmj⟩ := G.at hj
  have e1 : SL (L.set j ((L.getD j []).erase x)) = fun t => if t = j then pdel (SL L j) x else SL L t := by
    rw [SL_set (by rw [G.len]; exact hj)]
    funext t
    by_cases q : t = j
    · rw [if_pos q, if_pos q, mem_erase (G.nd _ hmj)]
    · rw [if_neg q, if_neg q]
  have e : SL (mvL L x j i) = mv (SL L) x j i := by
    unfold mvL
    rw [SL_set (by rw [List.length_set, G.len]; exact hi), e1]
    funext t
    unfold mv
    by_cases q : t = i
    · subst q; rw [if_pos rfl, if_pos rfl, mem_app]
    · rw [if_neg q, if_neg q]
  have xin : x ∈ L.getD j [] := mem_t.mp sj
  have nx : x ∉ L.getD i [] := fun q => by
    have := Pa.rdy.1
    have : mem (L.getD i []) x = false := this
    rw [mem_t.mpr q] at this; cases this
  refine ⟨⟨by rw [e]; exact g, ?_, ?_, ?_⟩, by rw [e]; exact p, fun z => ?_, xin, hij, hi, hj⟩
  · unfold mvL; rw [List.length_set, List.length_set]; exact G.len
  · intro l' hl'
    unfold mvL at hl'
    rcases List.mem_or_eq_of_mem_set hl' with h | h
    · rcases List.mem_or_eq_of_mem_set h with h | h
      · exact G.nd _ h
      · rw [h]; exact (G.nd _ hmj).erase x
    · rw [h]
      exact List.nodup_append.mpr ⟨G.nd _ hmi, by simp, fun a ha b hb q => by
        have : b = x := by simpa using hb
        subst this; subst q; exact nx ha⟩
  · intro l' hl' y' hy'
    unfold mvL at hl'
    rcases List.mem_or_eq_of_mem_set hl' with h | h
    · rcases List.mem_or_eq_of_mem_set h with h | h
      · exact G.inE _ h y' hy'
      · rw [h] at hy'; exact G.inE _ hmj y' (List.mem_of_mem_erase hy')
    · rw [h] at hy'
      rcases List.mem_append.mp hy' with q | q
      · exact G.inE _ hmi y' q
      · rw [List.mem_singleton.mp q]; exact hx
  · rw [e, Bool.eq_iff_iff, uni_t, uni_t]
    constructor
    · rintro ⟨t, ht, h⟩
      by_cases q : t = i
      · subst q; rw [mv_i] at h
        rcases pin_t.mp h with h | h
        · exact ⟨t, ht, h⟩
        · rw [h]; exact ⟨j, hj, sj⟩
      · by_cases q2 : t = j
        · subst q2; rw [mv_j hij] at h; exact ⟨t, ht, (pdel_t.mp h).1⟩
        · rw [mv_o q q2] at h; exact ⟨t, ht, h⟩
    · rintro ⟨t, ht, h⟩
      by_cases zx : z = x
      · subst zx; exact ⟨i, hi, by rw [mv_i]; exact pin_t.mpr (.inr rfl)⟩
      · refine ⟨t, ht, ?_⟩
        by_cases q : t = i
        · subst q; rw [mv_i]; exact pin_t.mpr (.inl h)
        · by_cases q2 : t = j
          · subst q2; rw [mv_j hij]; exact pdel_t.mpr ⟨h, zx⟩
          · rw [mv_o q q2]; exact h
end
end BF
set_option Elab.async false
set_option linter.all false
set_option maxRecDepth 100000
set_option maxHeartbeats 4000000
/-! shift. -/
namespace BF
open PySem PySem.Spec PyProof.Rows L2
def Exl (lvs : List Addr) (H H' : Hp) : Prop := ∀ b o, b ∉ lvs → H b = some o → H' b = some o
theorem Exl.refl {lvs : List Addr} {H : Hp} : Exl lvs H H := fun _ _ _ h => h
theorem Exl.trans {lvs : List Addr} {H H1 H2 : Hp} (a : Exl lvs H H1) (b : Exl lvs H1 H2) : Exl lvs H H2 := fun c o n h => b c o n (a c o n h)
theorem Exl.put {lvs : List Addr} {H H1 : Hp} {b : Addr} {o : HO} (a : Exl lvs H H1) (h : b ∈ lvs) : Exl lvs H (upd H1 b o) := fun c u n e => by
  rw [upd_ne (fun q => n (by rw [q]; exact h))]; exact a c u n e
theorem exl_same {lvs : List Addr} {H H1 : Hp} (s : Same H H1) : Exl lvs H H1 := fun b o _ h => s b o h
theorem PartAt.isL {K : PySem.W.Frag} {H : Hp} {s a fl ll : Addr} {k : Nat} {lvs : List Addr} {L : List (List Str)} (h : PartAt K H s a fl ll k lvs L) {b : Addr} (hb : b ∈ lvs) : ∃ us, H b = some (.lst us) := by
  obtain ⟨i, hi⟩ := List.mem_iff_getElem?.mp hb
  obtain ⟨l, _, us, h1, _⟩ := paired_at h.ls hi
  exact ⟨us, h1⟩
theorem PartAt.nin {K : PySem.W.Frag} {H : Hp} {s a fl ll : Addr} {k : Nat} {lvs : List Addr} {L : List (List Str)} (h : PartAt K H s a fl ll k lvs L) {b : Addr} {o : HO} (hb : H b = some o) (n : ∀ us, o ≠ .lst us) : b ∉ lvs := fun m => by
  obtain ⟨us, q⟩ := h.isL m
  rw [hb] at q
  exact n us (Option.some.inj q)
def spShift (K : PySem.W.Frag) : Sp := fun vs H Q _ => ∃ (s a fl ll c u : Addr) (k idx : Nat) (lvs : List Addr) (L : List (List Str)) (E : List Str) (r : List Str → Nat) (x x0 : Str) (C : Came Str) (l : List (Str × Nat)),
  vs = [.ref s, .ref c, .ref u, .int idx] ∧ Mat E r ∧ (∀ y ∈ E, PyData.strOk y = true) ∧ E.length ≤ 14 ∧ PartAt K H s a fl ll k lvs L ∧ GoodL E r k L ∧ CameAt H c C ∧ (C.map (·.1)).Nodup ∧ H u = some (.tup [.str x, .int 0]) ∧
  WayC C (x, idx) l ∧ Path E r k (SL L) (x, idx) l ∧ (((x, idx) :: l).map (·.1)).getLast? = some x0 ∧
  ∀ H' L', Exl lvs H H' → PartAt K H' s a fl ll k lvs L' → GoodL E r k L' → (∀ y, uni k (SL L') y = (uni k (SL L) y || decide (y = x0))) → Q .non H'
theorem sc_Parting_shift : FnScope ["self", "came", "unit", "index", "link"] ["self", "came", "unit", "index"] (defScope s_Parting_shift) := ⟨rfl, rfl, rfl, by decide +kernel, rfl, by decide +kernel, by decide +kernel⟩
theorem hu65 {A : Around} {k : Nat} (hr : Room k A) : A.units + 65 < cLine := by
  have h := hr.un
  omega
theorem sub_len {l E : List Str} (ndE : E.Nodup) (nd : l.Nodup) (h : ∀ x ∈ l, x ∈ E) : l.length ≤ E.length := by
  have : (E.filter (mem l)).Perm l := (List.perm_ext_iff_of_nodup (ndE.filter _) nd).mpr fun y => by
    rw [List.mem_filter]
    exact ⟨fun q => mem_t.mp q.2, fun q => ⟨h y q, mem_t.mpr q⟩⟩
  rw [← this.length_eq]
  exact List.length_filter_le _ _
theorem idx_of {x : Str} : ∀ {l : List Str}, x ∈ l → ∃ q, l[q]? = some x ∧ (∀ n z, n < q → l[n]? = some z → z ≠ x) ∧ l.erase x = l.eraseIdx q
  | y :: l, h => by
    by_cases e : y = x
    · subst e
      exact ⟨0, rfl, fun n z hn => by omega, by rw [List.erase_cons_head]; rfl⟩
    · rcases List.mem_cons.mp h with rfl | h
      · exact absurd rfl e
      · obtain ⟨q, h1, h2, h3⟩ := idx_of h
        refine ⟨q + 1, by rw [List.getElem?_cons_succ]; exact h1, fun n z hn hz => ?_, ?_⟩
        · cases n with
          | zero => rw [List.getElem?_cons_zero] at hz; cases hz; exact e
          | succ n => rw [List.getElem?_cons_succ] at hz; exact h2 n z (by omega) hz
        · rw [List.erase_cons_tail (by simpa using e), h3]; rfl
theorem paired_erase {β γ : Type} {F : β → γ → Prop} : ∀ {xs : List β} {ys : List γ} (i : Nat), Paired F xs ys → Paired F (xs.eraseIdx i) (ys.eraseIdx i)
  | _, _, _, .nil => .nil
  | _, _, 0, .cons a t => t
  | _, _, i + 1, .cons a t => .cons a (paired_erase i t)
section
variable {P : Program} {w : World} {K : PySem.W.Frag} {mg : Str → Option Value} {base : Heap}
theorem ok_Parting_shift (T : TX K mg) : FOk P w K mg base 1 ("Parting", some "shift") ["self", "came", "unit", "index"] (spShift K) := by
  refine T.fn 20 (d := d_Parting_shift) rfl rfl rfl sc_Parting_shift (fun vs H Q E h => ?_) (fun _ _ _ _ _ _ us hl => match us, hl with | [_, _, _, _], _ => rfl) (fun cdv A outer s H vs Q E hr h => ?_)
  · obtain ⟨s, a, fl, ll, c, u, k, idx, lvs, L, E, r, x, x0, C, l, rfl, _⟩ := h; rfl
  · obtain ⟨s, a, fl, ll, c, u, k, idx, lvs, L, E, r, x, x0, C, l, rfl, m, hok, few, Pa, GL, ⟨kvs, hc, pk⟩, ndC, hu1, way, path, last, kk⟩ := h
    have nd := sc_Parting_shift.nd
    have hu := hu_of hr
    have hu6 := hu65 hr
    refine ⟨_, pss_one (ps_while PassesOwn.never (pt_cmp (pc_notN (pv 2)))
      (pss_cons (ps_set (i := 4) nd rfl (Or.inl rfl) (pe_dget hu (pv 1) (pv 2) (fun _ _ => rfl)))
      (pss_cons (ps_if (pt_cmp (pc_notN (pv 4))) (pss_one (ps_expr (pe_bm PySem.F.plainAttrs_list PySem.F.slot_list_remove PySem.F.type_list_remove (mt_removeD hu6) (pe_ix ix_list (pe_fld (pv 0) rfl) (pe_ix ix_tup (pv 4) pe_int (fun _ _ => rfl)) (fun _ _ => rfl)) (pa_cons (pv 2) pa_nil)))) pss_nil)
      (pss_cons (ps_expr (pe_bm PySem.F.plainAttrs_list PySem.F.slot_list_append PySem.F.type_list_append mt_append (pe_ix ix_list (pe_fld (pv 0) rfl) (pv 3) (fun _ _ => rfl)) (pa_cons (pv 2) pa_nil)))
      (pss_one (ps_asg (pe_ifExp (pt_cmp (pc_notN (pv 4))) (pv 4) (pe_tup (pa_cons pe_non (pa_cons (pv 3) pa_nil)))) (pg_tup rfl (pgs_cons (pg_name (i := 2) nd rfl (.inl rfl)) (pgs_cons (pg_name (i := 3) nd rfl (.inl rfl)) pgs_nil))))))))), ?_⟩
    have cn : c ∉ lvs := Pa.nin hc fun _ e => nomatch e
    have tups : ∀ {H1 : Hp} {b : Addr} {xs : List V}, Exl lvs H H1 → H b = some (.tup xs) → H1 b = some (.tup xs) := fun e hb => e _ _ (Pa.nin hb fun _ e => nomatch e) hb
    refine ⟨fun n σ H1 => Exl lvs H H1 ∧ ((∃ (u : Addr) (idx : Nat) (x : Str) (l : List (Str × Nat)) (L1 : List (List Str)) (o4 : Option V), n = l.length + 1 ∧ σ = [some (.ref s), some (.ref c), some (.ref u), some (.int idx), o4] ∧ H1 u = some (.tup [.str x, .int 0]) ∧ PartAt K H1 s a fl ll k lvs L1 ∧ GoodL E r k L1 ∧
        WayC C (x, idx) l ∧ Path E r k (SL L1) (x, idx) l ∧ (((x, idx) :: l).map (·.1)).getLast? = some x0 ∧ ∀ y, uni k (SL L1) y = uni k (SL L) y) ∨
      (∃ (L1 : List (List Str)) (o3 o4 : Option V), n = 0 ∧ σ = [some (.ref s), some (.ref c), some .non, o3, o4] ∧ PartAt K H1 s a fl ll k lvs L1 ∧ GoodL E r k L1 ∧ ∀ y, uni k (SL L1) y = (uni k (SL L) y || decide (y = x0)))), ⟨_, Exl.refl, .inl ⟨u, idx, x, l, L, none, rfl, rfl, hu1, Pa, GL, way, path, last, fun _ => rfl⟩⟩, ?_⟩
    rintro n σ H1 ⟨ex, ⟨u, idx, x, l, L1, o4, rfl, rfl, hu1, Pa1, G1, way, path, last, hun⟩ | ⟨L1, o3, o4, rfl, rfl, Pa1, G1, hun⟩⟩
    · refine ⟨_, rfl, _, rfl, ifT (by rw [decide_eq_false (fun q => nomatch q)]; rfl) ⟨_, fun σ' H' q => q, ?_⟩⟩
      have hc1 : H1 c = some (.dT kvs) := ex _ _ cn hc
      have pk1 : Paired (CEnt H1) kvs C := Paired.imp (fun p e q => ⟨q.1, q.2.same fun b xs hb => tups ex hb⟩) pk
      obtain ⟨hxE, hik⟩ := path.ins _ List.mem_cons_self
      have hik : idx < k := hik
      have hxE : x ∈ E := hxE
      obtain ⟨dx, ho⟩ := Pa1.ob
      obtain ⟨hLi, hmi⟩ := G1.at hik
      obtain ⟨bi, hbi⟩ : ∃ bi, lvs[idx]? = some bi := ⟨_, List.getElem?_eq_getElem (by rw [Pa1.ln]; exact hik)⟩
      cases l with
      | nil =>
        obtain ⟨v, hv, hl⟩ := came_val pk1 ndC (show (x, none) ∈ C from way)
        have hl : v = .non := hl
        subst hl
        have g1 := DGet.t (k := uK x) hc1 hu1
        rw [hv] at g1
        refine ⟨_, rfl, _, rfl, c, _, rfl, g1, ?_⟩
        refine ⟨_, rfl, _, rfl, ifF (by rw [decide_eq_true rfl]; rfl) ?_⟩
        obtain ⟨l', hl', us, hus, pu⟩ := paired_at Pa1.ls hbi
        rw [hLi] at hl'
        cases hl'
        have len : us.length = (L1.getD idx []).length := Paired.length pu
        have lle : (L1.getD idx []).length ≤ 14 := Nat.le_trans (sub_len m.nd (G1.nd _ hmi) (G1.inE _ hmi)) few
        refine ⟨_, rfl, s, _, dx, _, _, rfl, ho, T.cl_Parting, T.na_Parting_lots, partF_l _ _, _, rfl, ll, _, (idx : Int), .ref bi, rfl, rfl, SqL.of Pa1.lt, atI_nat (by rw [List.getElem?_map, hbi]; rfl), .inl ⟨rfl, _, SqL.of hus⟩, _, rfl, bi, us, _, rfl, rfl, hus, by rw [sizeLine_eq]; omega, ?_⟩
        have ho0 : ∀ j, j < k → SL L1 j x = false := path.out x rfl
        obtain ⟨G2, hun2⟩ := put_lots m G1 hxE hik ho0 path.rdy
        have Pa2 := Pa1.put hbi (Paired.snoc pu (⟨u, rfl, hu1⟩ : UnitAt H1 (.ref u) x))
        have ex2 := ex.put (o := .lst (us ++ [.ref u])) (List.mem_of_getElem? hbi)
        generalize upd H1 bi (.lst (us ++ [.ref u])) = H2 at Pa2 ex2 ⊢
        refine ⟨_, rfl, _, rfl, ifF (by rw [decide_eq_true rfl]; rfl) ?_⟩
        refine ⟨_, rfl, by rw [sizeLine_eq]; simp, fun p hp => ?_⟩
        have s3 : Same H2 (upd H2 p (.tup [.non, .int (idx : Int)])) := same_new hp
        refine ⟨p, _, rfl, SqT.of upd_same, rfl, _, _, rfl, _, _, rfl, rfl, ?_⟩
        refine ⟨0, by simp, ex2.trans (exl_same s3), .inr ⟨_, _, _, rfl, rfl, Pa2.stp (.of_same (Γ := fun _ => none) s3), G2, fun y => ?_⟩⟩
        have e0' : x = x0 := Option.some.inj last
        rw [hun2, hun, e0']
      | cons b l =>
        obtain ⟨y, j⟩ := b
        obtain ⟨way1, way2⟩ := (show (x, some (y, j)) ∈ C ∧ WayC C (y, j) l from way)
        obtain ⟨v, hv, t, u2, rfl, ht, hu2⟩ := came_val pk1 ndC way1
        have g1 := DGet.t (k := uK x) hc1 hu1
        rw [hv] at g1
        refine ⟨_, rfl, _, rfl, c, _, rfl, g1, ?_⟩
        refine ⟨_, rfl, _, rfl, ifT (by rw [decide_eq_false (fun q => nomatch q)]; rfl) ?_⟩
        obtain ⟨G2, path2, hun2, xin, hji, _, hjk⟩ := mv_lots m G1 path
        obtain ⟨hLj, hmj⟩ := G1.at hjk
        obtain ⟨bj, hbj⟩ : ∃ bj, lvs[j]? = some bj := ⟨_, List.getElem?_eq_getElem (by rw [Pa1.ln]; exact hjk)⟩
        obtain ⟨l', hl', us, hus, pu⟩ := paired_at Pa1.ls hbj
        rw [hLj] at hl'
        cases hl'
        have len : us.length = (L1.getD j []).length := Paired.length pu
        have ndj := G1.nd _ hmj
        have inEj := G1.inE _ hmj
        obtain ⟨q, hq, hqn, hqe⟩ := idx_of xin
        refine ⟨_, rfl, s, _, dx, _, _, rfl, ho, T.cl_Parting, T.na_Parting_lots, partF_l _ _, _, rfl, t, _, 1, _, rfl, rfl, SqT.of ht, atI_nat (j := 1) rfl, ll, _, (j : Int), .ref bj, rfl, rfl, SqL.of Pa1.lt, atI_nat (by rw [List.getElem?_map, hbj]; rfl), .inl ⟨rfl, _, SqL.of hus⟩, _, rfl,
          bj, us, _, unitD x, (L1.getD j []).map unitD, q, unitD x, rfl, rfl, hus, units_dp pu, unit_dp ⟨u, rfl, hu1⟩, units_shaped _ (fun z hz => hok z (inEj z hz)), unit_shaped (hok x hxE), by rw [List.getElem?_map, hq]; rfl, by rw [unit_eqv]; simp, fun n z hn hz => ?_, ?_⟩
        · rw [List.getElem?_map] at hz
          cases ez : (L1.getD j [])[n]? with
          | none => rw [ez] at hz; cases hz
          | some z' =>
            rw [ez] at hz
            have e : unitD z' = z := Option.some.inj hz
            rw [← e, unit_eqv]
            exact decide_eq_false (hqn n z' hn ez)
        · have Pa2 := Pa1.put hbj (us := us.eraseIdx q) (l := (L1.getD j []).erase x) (by rw [hqe]; exact paired_erase q pu)
          have ex2 := ex.put (o := .lst (us.eraseIdx q)) (List.mem_of_getElem? hbj)
          have t2 : ∀ {b : Addr} {xs : List V}, H1 b = some (.tup xs) → upd H1 bj (.lst (us.eraseIdx q)) b = some (.tup xs) := fun hb => by
            rw [upd_ne (fun e => by rw [e, hus] at hb; cases hb)]; exact hb
          have hu3 := t2 hu1
          have ht3 := t2 ht
          have hu23 := t2 hu2
          generalize upd H1 bj (.lst (us.eraseIdx q)) = H2 at Pa2 ex2 hu3 ht3 hu23 ⊢
          obtain ⟨dx2, ho2⟩ := Pa2.ob
          have hLi2 : (L1.set j ((L1.getD j []).erase x))[idx]? = some (L1.getD idx []) := by rw [List.getElem?_set_ne hji]; exact hLi
          obtain ⟨l', hl', us2, hus2, pu2⟩ := paired_at Pa2.ls hbi
          rw [hLi2] at hl'
          cases hl'
          have len2 : us2.length = (L1.getD idx []).length := Paired.length pu2
          have lle : (L1.getD idx []).length ≤ 14 := Nat.le_trans (sub_len m.nd (G1.nd _ hmi) (G1.inE _ hmi)) few
          refine ⟨_, rfl, s, _, dx2, _, _, rfl, ho2, T.cl_Parting, T.na_Parting_lots, partF_l _ _, _, rfl, ll, _, (idx : Int), .ref bi, rfl, rfl, SqL.of Pa2.lt, atI_nat (by rw [List.getElem?_map, hbi]; rfl), .inl ⟨rfl, _, SqL.of hus2⟩, _, rfl, bi, us2, _, rfl, rfl, hus2, by rw [sizeLine_eq]; omega, ?_⟩
          have Pa3 := Pa2.put hbi (Paired.snoc pu2 (⟨u, rfl, hu3⟩ : UnitAt H2 (.ref u) x))
          have ex3 := ex2.put (o := .lst (us2 ++ [.ref u])) (List.mem_of_getElem? hbi)
          have t3 : ∀ {b : Addr} {xs : List V}, H2 b = some (.tup xs) → upd H2 bi (.lst (us2 ++ [.ref u])) b = some (.tup xs) := fun hb => by
            rw [upd_ne (fun e => by rw [e, hus2] at hb; cases hb)]; exact hb
          have ht4 := t3 ht3
          have hu24 := t3 hu23
          generalize upd H2 bi (.lst (us2 ++ [.ref u])) = H3 at Pa3 ex3 ht4 hu24 ⊢
          refine ⟨_, rfl, _, rfl, ifT (by rw [decide_eq_false (fun q => nomatch q)]; rfl) ?_⟩
          refine ⟨_, rfl, t, _, rfl, SqT.of ht4, rfl, _, _, rfl, _, _, rfl, rfl, ?_⟩
          refine ⟨l.length + 1, by simp, ex3, .inl ⟨u2, j, y, l, mvL L1 x j idx, _, rfl, rfl, hu24, Pa3, G2, way2, path2, ?_, fun z => (hun2 z).trans (hun z)⟩⟩
          have l2 : (((y, j) :: l).map (·.1)).getLast? = some x0 := by
            rw [List.map_cons, List.map_cons, List.getLast?_cons_cons] at last
            exact last
          exact l2
    · refine ⟨_, rfl, _, rfl, ifF (by rw [decide_eq_true rfl]; rfl) ?_⟩
      exact kk H1 L1 ex Pa1 G1 hun
end
end BF
set_option Elab.async false
set_option linter.all false
set_option maxRecDepth 100000
set_option maxHeartbeats 4000000
/-! place. -/
namespace BF
open PySem PySem.Spec PyProof.Rows L2
section
variable {D : Ends} {g : TG} {tb : TS} {σ : L2.St} {H : Hp}
/-- a loop over a range -/
theorem forR (n : Nat) (Pv : Nat → L2.St → Hp → Prop) (h0 : Pv 0 σ H) (hend : ∀ σ H, Pv n σ H → D.nx σ H)
    (hb : ∀ i σ H, i < n → Pv i σ H → ∀ N : L2.St → Hp → Prop, (∀ σ' H', Pv (i + 1) σ' H' → N σ' H') → g (.int (i : Nat)) σ H fun σ2 H2 => tb { D with nx := N, ct := N, bk := D.nx } σ2 H2) :
    ∃ W : Nat → Nat → L2.St → Hp → Prop, (∃ m, W 0 m σ H) ∧ ∀ i m σ H, W i m σ H →
      ((Itr 0 n).stop i H ∧ D.nx σ H) ∨ ((Itr 0 n).go i H ∧ ∃ N : L2.St → Hp → Prop, (∀ σ' H', N σ' H' → ∃ m', m' < m ∧ W (i + 1) m' σ' H') ∧ ∀ x H', (Itr 0 n).yld i H x H' → g x σ H' fun σ2 H2 => tb { D with nx := N, ct := N, bk := D.nx } σ2 H2) :=
  forG n Pv h0 (fun i σ H hi p => hi) (fun σ H p => ⟨Nat.le_refl _, hend σ H p⟩) fun i σ H hi p N hN x H' y => by
    obtain ⟨rfl, rfl⟩ := y
    rw [Int.zero_add]
    exact hb i σ _ hi p N hN
/-- a loop over a list that the invariant knows -/
theorem forL {K : PySem.W.Frag} {l : Addr} {xs : List V} (Pv : Nat → L2.St → Hp → Prop) (hR : ∀ i σ H, Pv i σ H → SqL K H l xs) (h0 : Pv 0 σ H) (hend : ∀ σ H, Pv xs.length σ H → D.nx σ H)
    (hb : ∀ i x σ H, xs[i]? = some x → Pv i σ H → ∀ N : L2.St → Hp → Prop, (∀ σ' H', Pv (i + 1) σ' H' → N σ' H') → g x σ H fun σ2 H2 => tb { D with nx := N, ct := N, bk := D.nx } σ2 H2) :
    ∃ W : Nat → Nat → L2.St → Hp → Prop, (∃ m, W 0 m σ H) ∧ ∀ i m σ H, W i m σ H →
      ((Itl K l).stop i H ∧ D.nx σ H) ∨ ((Itl K l).go i H ∧ ∃ N : L2.St → Hp → Prop, (∀ σ' H', N σ' H' → ∃ m', m' < m ∧ W (i + 1) m' σ' H') ∧ ∀ x H', (Itl K l).yld i H x H' → g x σ H' fun σ2 H2 => tb { D with nx := N, ct := N, bk := D.nx } σ2 H2) :=
  forG xs.length Pv h0 (fun i σ H hi p => ⟨xs, xs[i], hR _ _ _ p, by simp [hi]⟩) (fun σ H p => ⟨⟨xs, hR _ _ _ p, Nat.le_refl _⟩, hend σ H p⟩) fun i σ H hi p N hN x H' y => by
    obtain ⟨rfl, hz⟩ := y
    exact hb i x σ _ (hz xs (hR _ _ _ p)) p N hN
end
theorem any_units (y : Str) : ∀ l : List Str, ((l.map unitD).any fun z => PyData.eqv z (unitD y)) = mem l y
  | [] => by simp [mem]
  | x :: l => by
    rw [List.map_cons, List.any_cons, any_units y l, unit_eqv]
    unfold mem
    by_cases e : x = y
    · subst e; simp
    · have : ¬ y = x := fun q => e q.symm
      simp [e, this]
structure Srch (Γ : Gh) (H H1 : Hp) (c wt : Addr) (C : Came Str) : Prop where
  rg : Rg Γ H H1
  cm : CameAt H1 c C
  wa : ∃ us, H1 wt = some (.lst us) ∧ Paired (UnitAt H1) us (C.map (·.1))
theorem Srch.step {Γ : Gh} {H H1 H2 : Hp} {c wt : Addr} {C : Came Str} (h : Srch Γ H H1 c wt C) (r : Rg Γ H1 H2) (nc : ∀ a i, Γ a = some i → i.d ≠ c) : Srch Γ H H2 c wt C := by
  obtain ⟨kvs, h1, h2⟩ := h.cm
  obtain ⟨us, h3, h4⟩ := h.wa
  refine ⟨h.rg.trans r, ⟨kvs, ?_, Paired.imp (fun p e q => ⟨q.1, q.2.same fun b xs hb => r.st.tup hb⟩) h2⟩, ⟨us, r.st.lst h3, Paired.imp (fun _ _ q => UnitAt.stp r.st q) h4⟩⟩
  rcases r.st _ _ h1 with q | ⟨_, a, i, g, e⟩
  · exact q
  · exact absurd e (nc a i g)
theorem pl_exl {K : PySem.W.Frag} {Γ : Gh} {H H1 H2 : Hp} {s a fl ll : Addr} {k : Nat} {lvs : List Addr} {L : List (List Str)} (r : Rg Γ H H1) (Pa : PartAt K H1 s a fl ll k lvs L) (ex : Exl lvs H1 H2) : Pl Γ lvs H H2 := ⟨fun b o n h => by
  rcases r.st b o h with q | q
  · exact .inl (ex b o n q)
  · exact .inr q, fun a i g => by
  obtain ⟨kvs, h, k⟩ := r.ca a i g
  exact ⟨kvs, ex _ _ (Pa.nin h fun _ e => nomatch e) h, k⟩⟩
def spPlace (K : PySem.W.Frag) (n : Nat) : Sp := fun vs H Q _ => ∃ (Γ : Gh) (s a fl ll u : Addr) (k : Nat) (lvs : List Addr) (L : List (List Str)) (i : FInfo) (x : Str), vs = [.ref s, .ref u] ∧ Good K Γ H ∧ Γ a = some i ∧ i.dep < n ∧ PartAt K H s a fl ll k lvs L ∧ GoodL i.E i.r k L ∧
  H u = some (.tup [.str x, .int 0]) ∧ x ∈ i.E ∧ uni k (SL L) x = false ∧ k ≤ 1000 ∧
  (∀ H' L', Pl Γ lvs H H' → PartAt K H' s a fl ll k lvs L' → GoodL i.E i.r k L' → (∀ y, uni k (SL L') y = (uni k (SL L) y || decide (y = x))) → Q .non H') ∧
  (∀ H' p us ys, Rg Γ H H' → H' p = some (.lst us) → Paired (UnitAt H') us ys → Closed i.E i.r k (SL L) (mem ys) → x ∈ ys → ys.Nodup → ys.length ≤ 14 → (∀ y ∈ ys, y ∈ i.E) → Q (.ref p) H')
theorem sc_Parting_place : FnScope ["self", "unit", "came", "waiting", "at", "here", "index", "others", "other"] ["self", "unit"] (defScope s_Parting_place) := ⟨rfl, rfl, rfl, by decide +kernel, rfl, by decide +kernel, by decide +kernel⟩
section
variable {P : Program} {w : World} {K : PySem.W.Frag} {mg : Str → Option Value} {base : Heap}
theorem ok_Parting_place (T : TX K mg) (n : Nat) : FOk P w K mg base (2 * n + 4) ("Parting", some "place") ["self", "unit"] (spPlace K n) := by
  refine T.fn 21 (d := d_Parting_place) rfl rfl rfl sc_Parting_place (fun vs H Q E h => ?_) (fun _ _ _ _ _ _ us hl => match us, hl with | [_, _], _ => rfl) (fun cdv A outer s H vs Q E hr h => ?_)
  · obtain ⟨Γ, s, a, fl, ll, u, k, lvs, L, i, x, rfl, _⟩ := h; rfl
  · obtain ⟨Γ, s, a, fl, ll, u, k, lvs, L, i, x, rfl, G, g, hd, Pa, GL, hu1, hxE, hux, hk1000, kA, kB⟩ := h
    have nd := sc_Parting_place.nd
    have hu := hu_of hr
    have hu6 := hu65 hr
    refine ⟨_, pss_cons (ps_set (i := 2) nd rfl (Or.inl rfl) (pe_disp1T hu (pv 1) pe_non)) <|
      pss_cons (ps_set (i := 3) nd rfl (Or.inl rfl) (pe_lst (pa_cons (pv 1) pa_nil))) <|
      pss_cons (ps_set (i := 4) nd rfl (Or.inl rfl) pe_int) <|
      pss_cons (ps_while PassesOwn.never (pt_cmp (pc_lt (pv 4) (pe_callB call_len_seq (by rfl) T.f_len (by decide +kernel) (pa_cons (pv 3) pa_nil)))) <|
        pss_cons (ps_set (i := 5) nd rfl (Or.inl rfl) (pe_ix ix_list (pv 3) (pv 4) (fun _ _ => rfl))) <|
        pss_cons (ps_aug (i := 4) nd rfl (Or.inl rfl) pe_int ip_add) <|
        pss_one <| ps_for PassesOwn.never rfl (pi_range1 (by rfl) T.f_range (pa_cons (pe_callB call_len_seq (by rfl) T.f_len (by decide +kernel) (pa_cons (pe_fld (pv 0) rfl) pa_nil)) pa_nil)) (pg_name (i := 6) nd rfl (Or.inl rfl)) <|
          pss_cons (ps_set (i := 7) nd rfl (Or.inl rfl) (pe_ifExp (pt_cmpR (op_inD hu6) (pv 5) (pe_ix ix_list (pe_fld (pv 0) rfl) (pv 6) (fun _ _ => rfl)) (by rfl)) (pe_lst pa_nil) (pe_mt (pv 0) T.cl_Parting T.mt_Parting_in_the_way (ok_in_the_way T n) hr (pa_cons (pv 6) (pa_cons (pv 5) pa_nil))))) <|
          pss_cons (ps_if (pt_cmp (pc_isN (pv 7))) (pss_cons (ps_expr (pe_mt (pv 0) T.cl_Parting T.mt_Parting_shift (ok_Parting_shift T) (hr.mono (by omega)) (pa_cons (pv 2) (pa_cons (pv 5) (pa_cons (pv 6) pa_nil))))) (pss_one (ps_ret pe_non))) pss_nil) <|
          pss_one <| ps_for PassesOwn.never rfl (pi_list (pv 7)) (pg_name (i := 8) nd rfl (Or.inl rfl)) <|
            pss_one <| ps_if (pt_cmp (pc_dnotin hu (pv 8) (pv 2))) (pss_cons (ps_dput hu (pv 2) (pv 8) (pe_tup (pa_cons (pv 5) (pa_cons (pv 6) pa_nil))) rfl) (pss_one (ps_expr (pe_bm PySem.F.plainAttrs_list PySem.F.slot_list_append PySem.F.type_list_append mt_append (pv 3) (pa_cons (pv 8) pa_nil))))) pss_nil) <|
      pss_one (ps_ret (pv 3)), ?_⟩
    have F := G.fam a i g
    have few := F.few
    have hok : ∀ y ∈ i.E, PyData.strOk y = true := fun y hy => good_ok (F.gd y hy)
    intro c hc
    have sc0 : Same H (upd H c (.dT [])) := same_new hc
    refine ⟨_, rfl, u, uK x, rfl, sc0 _ _ hu1, upd_same, ?_⟩
    have sc1 : Same H (upd (upd H c (.dT [])) c (.dT [(uK x, .non)])) := same_put sc0 hc
    refine ⟨_, rfl, len1, fun wt hwt => ?_⟩
    have hwH : H wt = none := sc1.free hwt
    have cw : c ≠ wt := fun e => by rw [← e, upd_same] at hwt; cases hwt
    have sc2 : Same H (upd (upd (upd H c (.dT [])) c (.dT [(uK x, .non)])) wt (.lst [.ref u])) := same_put sc1 hwH
    have ncd : ∀ b j, Γ b = some j → j.d ≠ c := fun b j gb e => by
      obtain ⟨kv, h1, _⟩ := (G.fam b j gb).ca
      rw [e, hc] at h1; cases h1
    have S0 : Srch Γ H (upd (upd (upd H c (.dT [])) c (.dT [(uK x, .non)])) wt (.lst [.ref u])) c wt [(x, none)] := by
      refine ⟨.of_same G.caches sc2, ⟨[(uK x, .non)], by rw [upd_ne cw, upd_same], .cons ⟨rfl, rfl⟩ .nil⟩, ⟨_, upd_same, .cons ⟨u, rfl, sc2 _ _ hu1⟩ .nil⟩⟩
    have hout : ∀ j, j < k → SL L j x = false := uni_f.mp hux
    have lenC : ∀ {at_ idx : Nat} {C : Came Str}, BInv i.E i.r k (SL L) x C at_ idx → C.length ≤ i.E.length := fun {at_ idx C} B => by
      have := sub_len F.mat.nd B.nd (fun y hy => by obtain ⟨e, he, rfl⟩ := List.mem_map.mp hy; exact B.inE e he)
      rw [List.length_map] at this
      exact this
    refine ⟨fun m σ H1 => ∃ (at_ : Nat) (C : Came Str) (o5 o6 o7 o8 : Option V), m = i.E.length + 1 - at_ ∧ σ = [some (.ref s), some (.ref u), some (.ref c), some (.ref wt), some (.int at_), o5, o6, o7, o8] ∧ BInv i.E i.r k (SL L) x C at_ 0 ∧ Srch Γ H H1 c wt C ∧ at_ ≤ C.length,
      ⟨_, 0, [(x, none)], none, none, none, none, rfl, rfl, BInv.start x hxE hout, S0, Nat.zero_le _⟩, ?_⟩
    rintro m σ H1 ⟨at_, C, o5, o6, o7, o8, rfl, rfl, B, S, hat⟩
    obtain ⟨us, hus, pus⟩ := S.wa
    have lus : us.length = C.length := by rw [Paired.length pus, List.length_map]
    refine ⟨_, rfl, _, rfl, wt, us, rfl, .inl (SqL.of hus), (at_ : Int), ((us.length : Nat) : Int), rfl, rfl, _, rfl, ?_⟩
    by_cases hlt : at_ < C.length
    · refine ifT (decide_eq_true (by omega)) ⟨_, fun σ' H' q => q, ?_⟩
      obtain ⟨v, hv⟩ : ∃ v, us[at_]? = some v := ⟨_, List.getElem?_eq_getElem (by omega)⟩
      obtain ⟨y, hy, h, rfl, hh⟩ := paired_at pus hv
      rw [List.getElem?_map] at hy
      obtain ⟨e, hCe, hey⟩ := Option.map_eq_some_iff.mp hy
      obtain ⟨y', q⟩ := e
      have hey : y' = y := hey
      subst hey
      have Pa1 := Pa.stp S.rg.st
      obtain ⟨dx, ho⟩ := Pa1.ob
      have ek : (((lvs.map V.ref).length : Nat) : Int).toNat = k := by rw [List.length_map, Pa.ln]; rfl
      have ek2 : (lvs.map V.ref).length = k := by rw [List.length_map, Pa.ln]
      refine ⟨_, rfl, _, rfl, wt, us, (at_ : Int), .ref h, rfl, rfl, SqL.of hus, atI_nat hv, _, rfl, _, _, rfl, rfl, ?_⟩
      refine ⟨_, rfl, s, _, dx, _, _, rfl, ho, T.cl_Parting, T.na_Parting_lots, partF_l _ _, ll, _, rfl, .inl (SqL.of Pa1.lt), _, rfl, by omega, by omega, ?_⟩
      rw [ek]
      refine forR k (fun idx σ H2 => ∃ (C' : Came Str) (o6 o7 o8 : Option V), σ = [some (.ref s), some (.ref u), some (.ref c), some (.ref wt), some (.int ((at_ + 1 : Nat) : Int)), some (.ref h), o6, o7, o8] ∧ BInv i.E i.r k (SL L) x C' at_ idx ∧ C'[at_]? = some (y', q) ∧ Srch Γ H H2 c wt C' ∧ H2 h = some (.tup [.str y', .int 0])) ⟨C, o6, o7, o8, rfl, B, hCe, S, hh⟩ ?_ ?_
      · rintro σ H2 ⟨C', p6, p7, p8, rfl, B2, hC2, S2, hh2⟩
        have l1 := lenC B2
        have l2 := (List.getElem?_eq_some_iff.mp hC2).1
        have l3 := lenC B
        exact ⟨i.E.length + 1 - (at_ + 1), by omega, at_ + 1, C', _, _, _, _, rfl, rfl, B2.row, S2, by omega⟩
      · rintro idx σ H2 hik ⟨C', p6, p7, p8, rfl, B2, hC2, S2, hh2⟩ N hN
        have yE : y' ∈ i.E := B2.inE _ (List.mem_of_getElem? hC2)
        have Pa2 := Pa.stp S2.rg.st
        obtain ⟨dx2, ho2⟩ := Pa2.ob
        obtain ⟨bi, hbi⟩ : ∃ bi, lvs[idx]? = some bi := ⟨_, List.getElem?_eq_getElem (by rw [Pa.ln]; exact hik)⟩
        obtain ⟨l, hl, us2, hus2, pu2⟩ := paired_at Pa2.ls hbi
        have hlm : l ∈ L := List.mem_of_getElem? hl
        have eS : SL L idx = mem l := by unfold SL; rw [getD_at hl]
        -- not ready: the others join
        have rest : ∀ H3 p ws ys, Rg Γ H2 H3 → H3 p = some (.lst ws) → H2 p = none → Paired (UnitAt H3) ws ys → ys.length ≤ 14 → (∀ z ∈ ys, z ∈ i.E ∧ Arc i.E i.r (SL L) idx y' z) → (∀ z ∈ i.E, Arc i.E i.r (SL L) idx y' z → z ∈ ys) → ¬ Ready i.E i.r (SL L) idx y' →
            ∃ W : Nat → Nat → L2.St → Hp → Prop, (∃ m, W 0 m [some (.ref s), some (.ref u), some (.ref c), some (.ref wt), some (.int ((at_ + 1 : Nat) : Int)), some (.ref h), some (.int idx), some (.ref p), p8] H3) ∧ ∀ t m σ H, W t m σ H →
              ((Itl K p).stop t H ∧ N σ H) ∨ ((Itl K p).go t H ∧ ∃ N2 : L2.St → Hp → Prop, (∀ σ' H', N2 σ' H' → ∃ m', m' < m ∧ W (t + 1) m' σ' H') ∧ ∀ x H', (Itl K p).yld t H x H' → gName 8 x σ H' fun σ2 H2 => tIfS (tB (tDNotIn (tVar 8) (tVar 2))) (tSeq (sDPut (tVar 2) (tVar 8) (tTup (tCons (tVar 5) (tCons (tVar 6) tNil)))) (tDrop (tBM K "list" rAppend (tVar 3) (tCons (tVar 8) tNil)))) tNext { nx := N2, rt := Q, bk := N, ct := N2 } σ2 H2) := by
          intro H3 p ws ys r3 hp hp2 pws lys harc hall nr
          have S3 := S2.step r3 ncd
          have pn : H p = none := S2.rg.free hp2
          refine forL (D := { nx := N, rt := Q }) (fun t σ H4 => ∃ (C4 : Came Str) (p8 : Option V), σ = [some (.ref s), some (.ref u), some (.ref c), some (.ref wt), some (.int ((at_ + 1 : Nat) : Int)), some (.ref h), some (.int idx), some (.ref p), p8] ∧ BInv i.E i.r k (SL L) x C4 at_ idx ∧ C4[at_]? = some (y', q) ∧ Srch Γ H H4 c wt C4 ∧ H4 h = some (.tup [.str y', .int 0]) ∧ H4 p = some (.lst ws) ∧ Paired (UnitAt H4) ws ys ∧ ∀ z ∈ ys.take t, z ∈ C4.map (·.1))
            (fun t σ H4 ⟨_, _, _, _, _, _, _, h1, _⟩ => SqL.of h1) ⟨C', p8, rfl, B2, hC2, S3, r3.st.tup hh2, hp, pws, fun z hz => by rw [List.take_zero] at hz; cases hz⟩ ?_ ?_
          · rintro σ H4 ⟨C4, q8, rfl, B4, hC4, S4, hh4, hp4, pw4, hin⟩
            rw [Paired.length pw4, List.take_length] at hin
            exact hN _ _ ⟨C4, _, _, _, rfl, B4.next hC4 hik nr fun z hz A => hin z (hall z hz A), hC4, S4, hh4⟩
          · rintro t vo σ H4 ht ⟨C4, q8, rfl, B4, hC4, S4, hh4, hp4, pw4, hin⟩ N2 hN2
            obtain ⟨z, hz, o, rfl, hzo⟩ := paired_at pw4 ht
            obtain ⟨kvs, hkv, pkv⟩ := S4.cm
            obtain ⟨us4, hus4, pus4⟩ := S4.wa
            have g1 := DGet.t (k := uK z) hkv hzo
            have tk := take_snoc hz
            by_cases zin : z ∈ C4.map (·.1)
            · obtain ⟨⟨z', qz⟩, hmem, ez⟩ := List.mem_map.mp zin
              have ez : z' = z := ez
              subst ez
              obtain ⟨vz, hvz, _⟩ := came_val pkv B4.nd hmem
              rw [hvz] at g1
              refine ⟨_, rfl, _, rfl, c, _, rfl, g1, _, rfl, iteF ?_⟩
              refine hN2 _ _ ⟨C4, _, rfl, B4, hC4, S4, hh4, hp4, pw4, fun w' hw => ?_⟩
              rw [tk] at hw
              rcases List.mem_append.mp hw with hw | hw
              · exact hin w' hw
              · rw [List.mem_singleton.mp hw]; exact zin
            · rw [came_none pkv zin] at g1
              refine ⟨_, rfl, _, rfl, c, _, rfl, g1, _, rfl, iteT ?_⟩
              refine ⟨_, rfl, _, rfl, by rw [sizeLine_eq]; simp, fun tt htt => ?_⟩
              have sT : Same H4 (upd H4 tt (.tup [.ref h, .int (idx : Int)])) := same_new htt
              have hl : C4.length ≤ 14 := Nat.le_trans (lenC B4) few
              have lk : kvs.length = C4.length := Paired.length pkv
              refine ⟨_, rfl, _, rfl, c, _, rfl, DPut.t (k := uK z) (sT _ _ hkv) (sT _ _ hzo) (by rw [sizeLine_eq]; omega), ?_⟩
              have tn : H tt = none := S4.rg.free htt
              have cwt : wt ≠ c := Ne.symm cw
              -- the heap behind
              have hus5 : (upd (upd H4 tt (.tup [.ref h, .int (idx : Int)])) c (.dT (putK kvs (uK z) (.ref tt)))) wt = some (.lst us4) := by rw [upd_ne cwt]; exact sT _ _ hus4
              have lus4 : us4.length = C4.length := by rw [Paired.length pus4, List.length_map]
              refine ⟨_, rfl, .inl ⟨rfl, _, SqL.of hus5⟩, _, rfl, wt, us4, _, rfl, rfl, hus5, by rw [sizeLine_eq]; omega, ?_⟩
              have rg6 : Rg Γ H (upd (upd (upd H4 tt (.tup [.ref h, .int (idx : Int)])) c (.dT (putK kvs (uK z) (.ref tt)))) wt (.lst (us4 ++ [.ref o]))) := Rg.put G.caches (Rg.put G.caches (Rg.put G.caches S4.rg tn) hc) hwH
              have tup6 : ∀ {b : Addr} {xs : List V}, H4 b = some (.tup xs) → (upd (upd (upd H4 tt (.tup [.ref h, .int (idx : Int)])) c (.dT (putK kvs (uK z) (.ref tt)))) wt (.lst (us4 ++ [.ref o]))) b = some (.tup xs) := fun hb => by
                rw [upd_ne (fun e => by rw [e, hus4] at hb; cases hb), upd_ne (fun e => by rw [e, hkv] at hb; cases hb)]
                exact sT _ _ hb
              have tt6 : (upd (upd (upd H4 tt (.tup [.ref h, .int (idx : Int)])) c (.dT (putK kvs (uK z) (.ref tt)))) wt (.lst (us4 ++ [.ref o]))) tt = some (.tup [.ref h, .int (idx : Int)]) := by
                rw [upd_ne (fun e => by rw [e] at htt; rw [hus4] at htt; cases htt), upd_ne (fun e => by rw [e] at htt; rw [hkv] at htt; cases htt), upd_same]
              have un6 : ∀ v x, UnitAt H4 v x → UnitAt (upd (upd (upd H4 tt (.tup [.ref h, .int (idx : Int)])) c (.dT (putK kvs (uK z) (.ref tt)))) wt (.lst (us4 ++ [.ref o]))) v x := fun v x ⟨b, e, hb⟩ => ⟨b, e, tup6 hb⟩
              have c6 : (upd (upd (upd H4 tt (.tup [.ref h, .int (idx : Int)])) c (.dT (putK kvs (uK z) (.ref tt)))) wt (.lst (us4 ++ [.ref o]))) c = some (.dT (kvs ++ [(uK z, .ref tt)])) := by
                rw [upd_ne cw, upd_same, putK_new _ (came_none pkv zin)]
              have w6 : (upd (upd (upd H4 tt (.tup [.ref h, .int (idx : Int)])) c (.dT (putK kvs (uK z) (.ref tt)))) wt (.lst (us4 ++ [.ref o]))) wt = some (.lst (us4 ++ [.ref o])) := upd_same
              have p6 : (upd (upd (upd H4 tt (.tup [.ref h, .int (idx : Int)])) c (.dT (putK kvs (uK z) (.ref tt)))) wt (.lst (us4 ++ [.ref o]))) p = some (.lst ws) := by
                have pw : p ≠ wt := fun e => by
                  obtain ⟨us2, h2, _⟩ := S2.wa
                  rw [e, h2] at hp2; cases hp2
                rw [upd_ne pw, upd_ne (fun e => by rw [e, hkv] at hp4; cases hp4)]
                exact sT _ _ hp4
              generalize (upd (upd (upd H4 tt (.tup [.ref h, .int (idx : Int)])) c (.dT (putK kvs (uK z) (.ref tt)))) wt (.lst (us4 ++ [.ref o]))) = H6 at *
              obtain ⟨zE, zA⟩ := harc z (List.mem_of_getElem? hz)
              have hC4' : (C4 ++ [(z, some (y', idx))])[at_]? = some (y', q) := by
                rw [List.getElem?_append_left (List.getElem?_eq_some_iff.mp hC4).1]; exact hC4
              refine hN2 _ _ ⟨C4 ++ [(z, some (y', idx))], _, rfl, B4.add hC4 hik zE zA zin, hC4', ⟨rg6, ⟨_, c6, Paired.snoc (Paired.imp (fun a b qq => ⟨qq.1, qq.2.same fun b xs hb => tup6 hb⟩) pkv) ⟨rfl, tt, h, rfl, tt6, tup6 hh4⟩⟩, ⟨_, w6, ?_⟩⟩, tup6 hh4, p6, Paired.imp un6 pw4, fun w' hw => ?_⟩
              · rw [List.map_append]
                exact Paired.snoc (Paired.imp un6 pus4) ⟨o, rfl, tup6 hzo⟩
              · rw [tk] at hw
                rw [List.map_append]
                rcases List.mem_append.mp hw with hw | hw
                · exact List.mem_append_left _ (hin w' hw)
                · exact List.mem_append_right _ (by rw [List.mem_singleton.mp hw]; exact List.mem_cons_self)
        refine ⟨_, rfl, _, rfl, s, _, dx2, _, _, rfl, ho2, T.cl_Parting, T.na_Parting_lots, partF_l _ _, _, rfl, ll, _, (idx : Int), .ref bi, rfl, rfl, SqL.of Pa2.lt, atI_nat (by rw [List.getElem?_map, hbi]; rfl), unitD y', l.map unitD, unit_dp ⟨h, rfl, hh2⟩, .lst (SqL.of hus2) (units_dp pu2), unit_shaped (hok y' yE), units_shaped l (fun z hz => hok z (GL.inE l hlm z hz)), _, rfl, ?_⟩
        rw [any_units]
        cases em : mem l y' with
        | true =>
          refine iteT ⟨by rw [sizeLine_eq]; simp, fun p hp => ?_⟩
          have sP : Same H2 (upd H2 p (.lst [])) := same_new hp
          have G2 := G.step S2.rg
          have hS : SL L idx y' = true := by rw [eS]; exact em
          refine ⟨_, rfl, _, rfl, ifF (decide_eq_false fun q => nomatch q) ?_⟩
          refine ⟨_, rfl, p, rfl, ⟨_, SqL.of upd_same⟩, ?_⟩
          exact rest _ p [] [] (.of_same G2.caches sP) upd_same hp .nil (by simp) (fun z hz => by cases hz) (fun z _ A => by rw [A.1] at hS; cases hS) (fun R => by rw [R.1] at hS; cases hS)
        | false =>
          have hS : SL L idx y' = false := by rw [eS]; exact em
          refine iteF ⟨_, rfl, s, dx2, _, rfl, ho2, lk2 (by decide +kernel) (by decide +kernel), _, rfl, _, rfl, ?_⟩
          have G2 := G.step S2.rg
          refine ⟨Γ, s, a, fl, ll, h, k, idx, lvs, L, i, y', rfl, G2, g, hd, Pa2, GL, hik, hh2, yE, hS, fun R H3 r3 => ?_, fun nR H3 p ws ys r3 hp hp2 pws lys harc hall => ?_⟩
          · refine ⟨_, rfl, _, rfl, ifT (decide_eq_true rfl) ?_⟩
            have S3 := S2.step r3 ncd
            have Pa3 := Pa2.stp r3.st
            obtain ⟨dx3, ho3⟩ := Pa3.ob
            obtain ⟨lp, way, path, last⟩ := B2.path hC2 hik R
            refine ⟨_, rfl, s, dx3, _, rfl, ho3, lk2 (by decide +kernel) (by decide +kernel), _, rfl, _, rfl, _, rfl, ?_⟩
            refine ⟨s, a, fl, ll, c, h, k, idx, lvs, L, i.E, i.r, y', x, C', lp, rfl, F.mat, hok, few, Pa3, GL, S3.cm, B2.nd, r3.st.tup hh2, way, path, last, fun H4 L' ex Pa4 GL' hun => ?_⟩
            exact kA H4 L' (pl_exl S3.rg Pa3 ex) Pa4 GL' hun
          · refine ⟨_, rfl, _, rfl, ifF (decide_eq_false fun q => nomatch q) ?_⟩
            refine ⟨_, rfl, p, rfl, ⟨_, SqL.of hp⟩, ?_⟩
            exact rest H3 p ws ys r3 hp hp2 pws lys harc hall nR
    · refine ifF (decide_eq_false (by omega)) ⟨_, rfl, ?_⟩
      have e : C.length ≤ at_ := by omega
      refine kB H1 wt us (C.map (·.1)) S.rg hus pus (B.closed e) ?_ B.nd ?_ ?_
      · exact List.mem_map.mpr ⟨_, List.mem_of_getElem? B.hd, rfl⟩
      · rw [List.length_map]; exact Nat.le_trans (lenC B) few
      · intro y hy
        obtain ⟨e, he, rfl⟩ := List.mem_map.mp hy
        exact B.inE e he
end
end BF
set_option Elab.async false
set_option linter.all false
set_option maxRecDepth 100000
set_option maxHeartbeats 4000000
/-! Parting.__init__, told, copies. -/
namespace BF
open PySem PySem.Spec PyProof.Rows L2
def spPartInit (K : PySem.W.Frag) : Sp := fun vs H Q _ => ∃ (s dx fl a : Addr) (k : Nat), vs = [.ref s, .ref fl] ∧ H s = some (.ins (He.ga K "Parting") dx []) ∧ H fl = some (.lst (List.replicate k (.ref a))) ∧ k ≤ 1000 ∧
  ∀ (H' : Hp) (ll : Addr) (lvs : List Addr), Exc s H H' → H' s = some (.ins (He.ga K "Parting") dx (partF fl ll)) → H' ll = some (.lst (lvs.map V.ref)) → lvs.length = k → lvs.Nodup → (∀ b ∈ lvs, H b = none ∧ H' b = some (.lst [])) → ll ∉ lvs → Q .non H'
theorem sc_Parting_init : FnScope ["self", "families", "_"] ["self", "families"] (defScope s_Parting_init) := ⟨rfl, rfl, rfl, by decide +kernel, rfl, by decide +kernel, by decide +kernel⟩
def spTold (K : PySem.W.Frag) : Sp := fun vs H Q _ => ∃ (s a fl ll : Addr) (k : Nat) (lvs : List Addr) (L : List (List Str)), vs = [.ref s] ∧ PartAt K H s a fl ll k lvs L ∧ (∀ l ∈ L, l.length ≤ 14) ∧ k ≤ 1000 ∧
  ∀ H' p us, Same H H' → H p = none → H' p = some (.lst us) → Q (.ref p) H'
theorem sc_Parting_told : FnScope ["self", "lot", "unit"] ["self"] (defScope s_Parting_told) := ⟨rfl, rfl, rfl, by decide +kernel, rfl, by decide +kernel, by decide +kernel⟩
def spCopies (K : PySem.W.Frag) : Sp := fun vs H Q _ => ∃ (t : Addr) (xs : List Str), vs = [.ref t, .int 1] ∧ SqT K H t (txs xs) ∧ xs.length ≤ 1000 ∧
  ∀ H' p us, Same H H' → H p = none → H' p = some (.lst us) → Paired (UnitAt H') us xs → Q (.ref p) H'
theorem sc_copies : FnScope ["things", "many", "thing", "copy"] ["things", "many"] (defScope s_copies) := ⟨rfl, rfl, rfl, by decide +kernel, rfl, by decide +kernel, by decide +kernel⟩
section
variable {X : Cx}
theorem crSortedS (K : PySem.W.Frag) (h : X.K = K := by rfl) : CallR X (.builtin "sorted") (rSortedS K) := by subst h; exact cr_sortedS
end
theorem yesI {σ : L2.St} {H : Hp} {A B : Hp → Prop} (h : A H) : tYes σ H fun b H3 => if b = true then A H3 else B H3 := by
  show (if true = true then A H else B H)
  rw [if_pos rfl]
  exact h
theorem ne_fl : ¬ (("families" : Str) = "lots") := by decide +kernel
section
variable {P : Program} {w : World} {K : PySem.W.Frag} {mg : Str → Option Value} {base : Heap}
theorem ok_Parting_init (T : TX K mg) : FOk P w K mg base 1 ("Parting", some "__init__") ["self", "families"] (spPartInit K) := by
  refine T.fn 18 (d := d_Parting_init) rfl rfl rfl sc_Parting_init (fun vs H Q E h => ?_) (fun _ _ _ _ _ _ us hl => match us, hl with | [_, _], _ => rfl) (fun cdv A outer s H vs Q E hr h => ?_)
  · obtain ⟨s, dx, fl, a, k, rfl, _⟩ := h; rfl
  · obtain ⟨s, dx, fl, a, k, rfl, hs, hf, hk, kk⟩ := h
    have nd := sc_Parting_init.nd
    refine ⟨_, pss_cons (ps_fld (pv 0) (pv 1) rfl) <| pss_one (ps_fld (pv 0) (pe_lc (own := [("_", 2)]) (g := gName 2) rfl nd (pi_list (pv 1)) (blkOk_by (N := ["self", "families", "_"]) (sc := defScope s_Parting_init) (by decide +kernel)) (fun _ _ _ _ _ => pg_name (i := 2) nd rfl (Or.inl rfl))
        (fun _ _ _ _ _ => pts_nil) (fun _ _ _ _ _ => pe_lst pa_nil)) rfl), ?_⟩
    refine ⟨_, rfl, _, rfl, s, _, dx, [], rfl, hs, T.cl_Parting, T.na_Parting_families, by decide, ?_⟩
    have hfs : fl ≠ s := fun e => by rw [e, hs] at hf; cases hf
    have hf1 : upd H s (.ins (He.ga K "Parting") dx (putF "families" (.ref fl) [])) fl = some (.lst (List.replicate k (.ref a))) := by rw [upd_ne hfs]; exact hf
    have hs1 : upd H s (.ins (He.ga K "Parting") dx (putF "families" (.ref fl) [])) s = some (.ins (He.ga K "Parting") dx [("families", .ref fl)]) := upd_same
    have ex1 : Exc s H (upd H s (.ins (He.ga K "Parting") dx (putF "families" (.ref fl) []))) := Exc.refl.put
    have fr1 : ∀ b, upd H s (.ins (He.ga K "Parting") dx (putF "families" (.ref fl) [])) b = none → H b = none := fun b hb => by
      by_cases e : b = s
      · rw [e, hs1] at hb; cases hb
      · rw [upd_ne e] at hb; exact hb
    generalize upd H s (.ins (He.ga K "Parting") dx (putF "families" (.ref fl) [])) = H1 at *
    refine ⟨_, rfl, fl, rfl, ⟨_, SqL.of hf1⟩, fun D hD => ?_⟩
    refine lc_list (xs := List.replicate k (.ref a)) (fun i H2 => Same H1 H2 ∧ ∃ bs : List Addr, H2 D = some (.lst (bs.map V.ref)) ∧ bs.length = i ∧ bs.Nodup ∧ D ∉ bs ∧ ∀ b ∈ bs, H1 b = none ∧ H2 b = some (.lst [])) ⟨same_new hD, [], upd_same, rfl, List.nodup_nil, by simp, fun b hb => by cases hb⟩ (fun i H2 _ p => SqL.of (p.1 _ _ hf1)) ?_ ?_
    · rintro i x H2 hx ⟨s2, bs, h2, rfl, ndb, nD, hb⟩
      have hi : bs.length < k := by
        have := (List.getElem?_eq_some_iff.mp hx).1
        rw [List.length_replicate] at this
        exact this
      refine ⟨rfl, ?_⟩
      refine yesI ?_
      refine ⟨by rw [sizeLine_eq]; simp, fun q hq => ⟨bs.map V.ref, ?_, ?_, ?_⟩⟩
      · rw [upd_ne (fun e => by rw [e] at h2; rw [h2] at hq; cases hq)]; exact h2
      · rw [List.length_map, sizeLine_eq]; omega
      · have qD : q ≠ D := fun e => by rw [e] at hq; rw [h2] at hq; cases hq
        have qb : q ∉ bs := fun e => by rw [(hb q e).2] at hq; cases hq
        have q1 : H1 q = none := s2.free hq
        refine ⟨same_put (same_put s2 q1) hD, bs ++ [q], by rw [upd_same, List.map_append]; rfl, by simp, ?_, ?_, ?_⟩
        · exact List.nodup_append.mpr ⟨ndb, by simp, fun a ha b hb e => by
            have : b = q := by simpa using hb
            subst this; subst e; exact qb ha⟩
        · intro e
          rcases List.mem_append.mp e with e | e
          · exact nD e
          · exact qD (List.mem_singleton.mp e).symm
        · intro b hbm
          rcases List.mem_append.mp hbm with e | e
          · refine ⟨(hb b e).1, ?_⟩
            rw [upd_ne (fun z => nD (by rw [← z]; exact e)), upd_ne (fun z => qb (by rw [← z]; exact e))]
            exact (hb b e).2
          · rw [List.mem_singleton.mp e]
            refine ⟨q1, ?_⟩
            rw [upd_ne qD, upd_same]
    · rintro H2 ⟨s2, bs, h2, hl, ndb, nD, hb⟩
      rw [List.length_replicate] at hl
      have hs2 := s2 _ _ hs1
      refine ⟨_, rfl, s, _, dx, [("families", .ref fl)], rfl, hs2, T.cl_Parting, T.na_Parting_lots, by show 1 < 1000; omega, ?_⟩
      rw [putF2 ne_fl]
      have ns : s ≠ D := fun e => by rw [e, h2] at hs2; cases hs2
      refine kk _ D bs ((ex1.same s2).put) upd_same (by rw [upd_ne (Ne.symm ns)]; exact h2) hl ndb (fun b hbm => ⟨fr1 b (hb b hbm).1, ?_⟩) nD
      rw [upd_ne (fun e => by rw [← e, (hb b hbm).2] at hs2; cases hs2)]
      exact (hb b hbm).2
def scTold : Scope := { kind := .function, names := [(".0", .local), ("lot", .local), ("sorted", .globalImplicit)], isGenerator := false, isCoroutine := false }
theorem ok_Parting_told (T : TX K mg) : FOk P w K mg base 1 ("Parting", some "told") ["self"] (spTold K) := by
  refine T.fn 22 (d := d_Parting_told) rfl rfl rfl sc_Parting_told (fun vs H Q E h => ?_) (fun _ _ _ _ _ _ us hl => match us, hl with | [_], _ => rfl) (fun cdv A outer s H vs Q E hr h => ?_)
  · obtain ⟨s, a, fl, ll, k, lvs, L, rfl, _⟩ := h; rfl
  · obtain ⟨s, a, fl, ll, k, lvs, L, rfl, Pa, lL, hk, kk⟩ := h
    have nd := sc_Parting_told.nd
    refine ⟨_, pss_one (ps_ret (pe_lc (own := [("lot", 1)]) (g := gName 1) rfl nd (pi_list (pe_fld (pv 0) rfl)) (blkOk_by (N := ["self", "lot", "unit"]) (sc := defScope s_Parting_told) (by decide +kernel)) (fun _ _ _ _ _ => pg_name (i := 1) nd rfl (Or.inl rfl))
        (fun _ _ _ _ _ => pts_nil) (fun _ _ _ _ _ => pe_callB (crSortedS K) (by rfl) T.f_sorted (by decide +kernel) (pa_cons
          (pe_lc (own := [("unit", 2)]) (g := gName 2) rfl nd (piList K (pv 1)) (blkOk_by (N := ["self", "lot", "unit"]) (sc := scTold) (by decide +kernel)) (fun _ _ _ _ _ => pg_name (i := 2) nd rfl (Or.inl rfl)) (fun _ _ _ _ _ => pts_nil) (fun _ _ _ _ _ => pe_ix (ixTup K) (pv 2) pe_int (fun _ _ => rfl))) pa_nil)))), ?_⟩
    obtain ⟨dx, ho⟩ := Pa.ob
    refine ⟨_, rfl, s, _, dx, _, _, rfl, ho, T.cl_Parting, T.na_Parting_lots, partF_l _ _, ll, rfl, ⟨_, SqL.of Pa.lt⟩, fun D hD => ?_⟩
    have lenl : (lvs.map V.ref).length = k := by rw [List.length_map, Pa.ln]
    refine lcJ (H0 := H) (same_frm H) (src_list fun H' r => SqL.of (r _ _ Pa.lt)) (fun _ => true) (fun _ _ _ _ => True) (by omega) (fun _ _ _ _ _ _ _ => trivial) (fun _ _ _ _ _ _ _ => trivial) (fun x => rfl) hD (same_new hD) ?_ ?_ ?_
    · intro i x H2 Qb hi r q
      exact q H2 (Same.refl _)
    · intro i x H2 Qv hi _ r q
      rw [List.getElem?_map] at hi
      obtain ⟨b, hb, rfl⟩ := Option.map_eq_some_iff.mp hi
      obtain ⟨l, hl, us, hus, pu⟩ := paired_at Pa.ls hb
      have hl14 := lL l (List.mem_of_getElem? hl)
      have lus : us.length = l.length := Paired.length pu
      refine ⟨_, rfl, b, rfl, ⟨_, SqL.of (r _ _ hus)⟩, fun M hM => ?_⟩
      refine lcV (H0 := H2) (same_frm H2) (src_list fun H' r' => SqL.of (r' _ _ (r _ _ hus))) (fun _ => true) (fun j => .str (l.getD j e0)) (by omega) (fun x => rfl) hM (same_new hM) ?_ ?_ ?_
      · intro j y H3 Qb hj r3 q3
        exact q3 H3 (Same.refl _)
      · intro j y H3 Qw hj _ r3 q3
        obtain ⟨z, hz, u, rfl, hu⟩ := paired_at pu hj
        refine ⟨_, rfl, u, _, 0, _, rfl, rfl, SqT.of (r3 _ _ (r _ _ hu)), atI_nat (j := 0) rfl, ?_⟩
        have := q3 H3 (Same.refl _)
        rw [getD_at (d := e0) hz] at this
        exact this
      · intro H3 r3 hd
        have e : (picks us.length fun _ => true).map (fun j => V.str (l.getD j e0)) = txs l := by
          rw [picks_all, lus]
          exact map_range' V.str e0 l
        rw [e] at hd
        refine ⟨M, l, rfl, SqL.of hd, by omega, fun ys p pm srt hp => ?_⟩
        exact q _ _ (same_put r3 (r3.free hp)) trivial
    · intro H2 us r hu _
      exact kk H2 D us r hD hu
theorem ok_copies (T : TX K mg) : FOk P w K mg base 1 ("copies", none) ["things", "many"] (spCopies K) := by
  refine T.fn 25 (d := d_copies) rfl rfl rfl sc_copies (fun vs H Q E h => ?_) (fun _ _ _ _ _ _ us hl => match us, hl with | [_, _], _ => rfl) (fun cdv A outer s H vs Q E hr h => ?_)
  · obtain ⟨t, xs, rfl, _⟩ := h; rfl
  · obtain ⟨t, xs, rfl, ht, hz, kk⟩ := h
    have nd := sc_copies.nd
    refine ⟨_, pss_one (ps_ret (pe_lc2 (own := [("thing", 2), ("copy", 3)]) (vs1 := [3]) (g := gName 2) (g1 := gName 3) rfl nd (pi_tup (pv 0)) (blkOk_by (N := ["things", "many", "thing", "copy"]) (sc := defScope s_copies) (by decide +kernel)) (by decide) (fun _ _ _ _ _ => pg_name (i := 2) nd rfl (Or.inl rfl)) (fun _ _ _ _ _ => pts_nil)
        (fun _ _ _ _ _ => pi_range1 (by rfl) T.f_range (pa_cons (pv 1) pa_nil)) (fun _ _ _ _ _ => pg_name (i := 3) nd rfl (Or.inl rfl)) (fun _ _ _ _ _ => pts_nil) (fun _ _ _ _ _ => pe_tup (pa_cons (pv 2) (pa_cons (pv 3) pa_nil))))), ?_⟩
    refine ⟨_, rfl, t, rfl, ⟨_, ht⟩, fun D hD => ?_⟩
    let Pv : Nat → Hp → Prop := fun i H1 => Same H H1 ∧ ∃ us, H1 D = some (.lst us) ∧ Paired (UnitAt H1) us (xs.take i)
    refine ⟨fun i m H1 => m = xs.length - i ∧ i ≤ xs.length ∧ Pv i H1, ⟨xs.length, by simp, Nat.zero_le _, same_new hD, [], upd_same, .nil⟩, ?_⟩
    rintro i m H1 ⟨rfl, hi, s1, us, hu, pu⟩
    by_cases hlt : i < xs.length
    · have hx : (txs xs)[i]? = some (.str xs[i]) := by rw [List.getElem?_map, List.getElem?_eq_getElem hlt]; rfl
      refine .inr ⟨⟨_, _, same_seqT s1 ht, hx⟩, Pv (i + 1), fun H' p' => ⟨xs.length - (i + 1), by omega, rfl, hlt, p'⟩, fun x H' y => ?_⟩
      obtain ⟨rfl, hy⟩ := y
      have := hy _ (same_seqT s1 ht)
      rw [hx] at this
      cases this
      refine ⟨rfl, ?_⟩
      refine yesI ?_
      refine ⟨_, rfl, 1, rfl, by decide, by decide, ?_⟩
      refine ⟨fun j k H2 => k = 1 - j ∧ ((j = 0 ∧ Pv i H2) ∨ (j = 1 ∧ Pv (i + 1) H2)), ⟨1, rfl, .inl ⟨rfl, s1, us, hu, pu⟩⟩, ?_⟩
      rintro j kk2 H2 ⟨rfl, ⟨rfl, s2, us2, hu2, pu2⟩ | ⟨rfl, p2⟩⟩
      · refine .inr ⟨by show 0 < (1 : Int).toNat; decide, Pv (i + 1), fun H3 p3 => ⟨0, by omega, rfl, .inr ⟨rfl, p3⟩⟩, fun x H3 y => ?_⟩
        obtain ⟨rfl, rfl⟩ := y
        refine ⟨rfl, ?_⟩
        refine yesI ?_
        refine ⟨_, rfl, _, rfl, by rw [sizeLine_eq]; simp, fun q hq => ?_⟩
        have len2 : us2.length ≤ i := by rw [Paired.length pu2, List.length_take]; omega
        have qD : q ≠ D := fun e => by rw [e, hu2] at hq; cases hq
        have sq : Same H3 (upd H3 q (.tup [.str xs[i], .int (0 + ((0 : Nat) : Int))])) := same_new hq
        refine ⟨us2, by rw [upd_ne (Ne.symm qD)]; exact hu2, by rw [sizeLine_eq]; omega, ?_⟩
        have un : ∀ v x, UnitAt H3 v x → UnitAt (upd (upd H3 q (.tup [.str xs[i], .int (0 + ((0 : Nat) : Int))])) D (.lst (us2 ++ [.ref q]))) v x := fun v x ⟨u, e, h⟩ => ⟨u, e, by
          rw [upd_ne (fun z => by rw [z, hu2] at h; cases h)]; exact sq _ _ h⟩
        refine ⟨same_put (s2.trans sq) hD, _, upd_same, ?_⟩
        rw [take_snoc (List.getElem?_eq_getElem hlt)]
        exact Paired.snoc (Paired.imp un pu2) ⟨q, rfl, by rw [upd_ne qD, upd_same]; rfl⟩
      · exact .inl ⟨by show (1 : Int).toNat ≤ 1; decide, p2⟩
    · have e : i = xs.length := by omega
      subst e
      refine .inl ⟨⟨_, same_seqT s1 ht, by rw [List.length_map]; exact Nat.le_refl _⟩, ?_⟩
      rw [List.take_length] at pu
      exact kk H1 D us s1 hD hu pu
end
end BF
set_option Elab.async false
set_option linter.all false
set_option maxRecDepth 100000
set_option maxHeartbeats 4000000
/-! all_placed, covered. -/
namespace BF
open PySem PySem.Spec PyProof.Rows L2
theorem fr_none {E : List Str} {r : List Str → Nat} (m : Mat E r) : Fr E r fun _ => false := by
  obtain ⟨q, h1, h2, _⟩ := m.base fun _ => false
  refine h2.eqOn fun x hx => ?_
  cases e : q x with
  | false => rfl
  | true => have := h1 x hx e; cases this
theorem SL_empty (k : Nat) : SL (List.replicate k []) = fun _ _ => false := by
  funext t x
  unfold SL
  have : (List.replicate k ([] : List Str)).getD t [] = [] := by
    rw [List.getD_eq_getElem?_getD, List.getElem?_replicate]
    split <;> rfl
  rw [this]; rfl
theorem good_empty {E : List Str} {r : List Str → Nat} (m : Mat E r) (k : Nat) : GoodL E r k (List.replicate k []) where
  good := by
    rw [SL_empty]
    exact ⟨fun i _ => fr_none m, fun i j x _ _ _ h => by cases h⟩
  len := List.length_replicate
  nd := fun l hl => by rw [(List.mem_replicate.mp hl).2]; exact List.nodup_nil
  inE := fun l hl x hx => by rw [(List.mem_replicate.mp hl).2] at hx; cases hx
theorem uni_empty (k : Nat) (y : Str) : uni k (SL (List.replicate k [])) y = false := by
  rw [SL_empty]
  exact uni_f.mpr fun _ _ => rfl
theorem paired_rep {F : Addr → List Str → Prop} : ∀ (lvs : List Addr), (∀ b ∈ lvs, F b []) → Paired F lvs (List.replicate lvs.length [])
  | [], _ => .nil
  | b :: lvs, h => .cons (h b List.mem_cons_self) (paired_rep lvs fun c hc => h c (List.mem_cons_of_mem _ hc))
/-- a parting just made -/
theorem PartAt.new {K : PySem.W.Frag} {H H' : Hp} {x dx fl a ll : Addr} {k : Nat} {lvs : List Addr} (h1 : H x = none) (h2 : H dx = none) (hf : H fl = some (.lst (List.replicate k (.ref a)))) (ex : Exc x (upd (upd H dx (.own x)) x (.ins (He.ga K "Parting") dx [])) H') (ho : H' x = some (.ins (He.ga K "Parting") dx (partF fl ll))) (hll : H' ll = some (.lst (lvs.map V.ref))) (ln : lvs.length = k) (nd : lvs.Nodup)
    (hb : ∀ b ∈ lvs, (upd (upd H dx (.own x)) x (.ins (He.ga K "Parting") dx [])) b = none ∧ H' b = some (.lst [])) (nl : ll ∉ lvs) : Same H H' ∧ PartAt K H' x a fl ll k lvs (List.replicate k []) ∧ ∀ b ∈ lvs, H b = none := by
  have s : Same H H' := ex.made h1 h2
  have fr : ∀ b ∈ lvs, H b = none := fun b hbm => made_free (hb b hbm).1
  refine ⟨s, ⟨⟨dx, ho⟩, s _ _ hf, hll, ln, nd, fun m => (by rw [fr fl m] at hf; cases hf), nl, ?_⟩, fr⟩
  rw [← ln]
  exact paired_rep lvs fun b hbm => ⟨[], (hb b hbm).2, .nil⟩
section
variable {K : PySem.W.Frag} {P : Program} {w : World} {H0 : Hp} {σ : L2.St} {j : Nat} {vs : List Nat} {te : TE}
/-- {e for x in xs}, the texts all different -/
theorem scU {p : Addr} {us : List V} {ys : List Str} {H1 : Hp} {D : Addr} {Qd : Hp → Prop} (hp : ∀ H', Same H0 H' → SqL K H' p us) (nd : ys.Nodup) (len : us.length = ys.length) (few : ys.length ≤ 1000) (hw : ∀ x, wipe ((wipe σ vs).set j (some x)) vs = wipe σ vs) (hD : H0 D = none) (h1 : Same H0 (upd H1 D (SetTO P w D [])))
    (he : ∀ (i : Nat) (v : V) (y : Str) (H1 : Hp) (Qv : VK), us[i]? = some v → ys[i]? = some y → Same H0 H1 → (∀ H2, Same H1 H2 → Qv (.str y) H2) → te ((wipe σ vs).set j (some v)) H1 Qv)
    (hd : ∀ H l, Same H0 H → H D = some (SetTO P w D l) → l.length = ys.length → Qd H) :
    ∃ W : Nat → Nat → Hp → Prop, (∃ m, W 0 m (upd H1 D (SetTO P w D []))) ∧ ∀ i m H, W i m H →
      ((Itl K p).stop i H ∧ Qd H) ∨ ((Itl K p).go i H ∧ ∃ Nx : Hp → Prop, (∀ H', Nx H' → ∃ m', m' < m ∧ W (i + 1) m' H') ∧ ∀ x H', (Itl K p).yld i H x H' → gName j x (wipe σ vs) H' fun σ2 H2 => wipe σ2 vs = wipe σ vs ∧ tYes σ2 H2 fun b H3 =>
        if b = true then te σ2 H3 fun y H4 => ∃ (x : Str) (l : List Str), y = .str x ∧ H4 D = some (SetTO P w D l) ∧ x ∉ l ∧ l.length + 1 < scanBound ∧ Nx (upd H4 D (SetTO P w D (x :: l))) else Nx H3) := by
  have hsb : ∀ {t : Nat}, t ≤ 1000 → t + 1 < scanBound := fun {t} h => Nat.lt_of_le_of_lt (by omega : t + 1 ≤ 1001) (by decide)
  refine ⟨fun i m H => m = us.length - i ∧ i ≤ us.length ∧ Same H0 H ∧ H D = some (SetTO P w D (ys.take i).reverse), ⟨us.length, by simp, Nat.zero_le _, h1, by rw [upd_same]; rfl⟩, ?_⟩
  rintro i m H ⟨rfl, hi, s, hDl⟩
  by_cases hlt : i < us.length
  · obtain ⟨y, hy⟩ : ∃ y, ys[i]? = some y := ⟨_, List.getElem?_eq_getElem (by omega)⟩
    refine .inr ⟨⟨us, us[i], hp H s, by simp [hlt]⟩, fun H' => Same H0 H' ∧ H' D = some (SetTO P w D (ys.take (i + 1)).reverse), fun H' q => ⟨us.length - (i + 1), by omega, rfl, hlt, q⟩, fun x H' yy => ?_⟩
    obtain ⟨e, hx⟩ := yy
    subst e
    refine ⟨hw x, yesI ?_⟩
    refine he i x y _ _ (hx us (hp _ s)) hy s fun H2 s2 => ?_
    refine ⟨y, (ys.take i).reverse, rfl, s2 _ _ hDl, fun q => not_in_take nd hy (List.mem_reverse.mp q), hsb (by rw [List.length_reverse, List.length_take]; omega), same_put (s.trans s2) hD, ?_⟩
    rw [upd_same, take_snoc hy, List.reverse_append]; rfl
  · have e : i = us.length := by omega
    subst e
    refine .inl ⟨⟨us, hp H s, Nat.le_refl _⟩, hd H _ s hDl ?_⟩
    rw [List.length_reverse, List.length_take]; omega
end
def spAll (K : PySem.W.Frag) (n : Nat) : Sp := fun vs H Q _ => ∃ (Γ : Gh) (fl ul a : Addr) (i : FInfo) (k : Nat) (us : List V), vs = [.ref fl, .ref ul] ∧ Good K Γ H ∧ Γ a = some i ∧ i.dep < n ∧ H fl = some (.lst (List.replicate k (.ref a))) ∧ k ≤ 1000 ∧ H ul = some (.lst us) ∧ Paired (UnitAt H) us i.E ∧
  (CovOK i.E i.r k → ∀ H' p q, Rg Γ H H' → H' p = some (.tup [.ref q, .non]) → Q (.ref p) H') ∧ (¬ CovOK i.E i.r k → ∀ H' p v, Rg Γ H H' → H' p = some (.tup [.non, v]) → Q (.ref p) H')
theorem sc_all_placed : FnScope ["families", "units", "parting", "unit", "pushed", "one"] ["families", "units"] (defScope s_all_placed) := ⟨rfl, rfl, rfl, by decide +kernel, rfl, by decide +kernel, by decide +kernel⟩
theorem len2 {x y : V} : [x, y].length ≤ sizeLine := by rw [sizeLine_eq]; simp
section
variable {P : Program} {w : World} {K : PySem.W.Frag} {mg : Str → Option Value} {base : Heap}
theorem ok_all_placed (T : TX K mg) (n : Nat) : FOk P w K mg base (2 * n + 5) ("all_placed", none) ["families", "units"] (spAll K n) := by
  refine T.fn 23 (d := d_all_placed) rfl rfl rfl sc_all_placed (fun vs H Q E h => ?_) (fun _ _ _ _ _ _ us hl => match us, hl with | [_, _], _ => rfl) (fun cdv A outer s H vs Q E hr h => ?_)
  · obtain ⟨Γ, fl, ul, a, i, k, us, rfl, _⟩ := h; rfl
  · obtain ⟨Γ, fl, ul, a, i, k, us, rfl, G, g, hd, hf, hk, hul, pu, kY, kN⟩ := h
    have nd := sc_all_placed.nd
    have hu := hu_of hr
    refine ⟨_, pss_cons (ps_set (i := 2) nd rfl (Or.inl rfl) (pe_mk T.mk_Parting (ok_Parting_init T) (hr.mono (by omega)) T.g_Parting (pa_cons (pv 0) pa_nil))) <|
      pss_cons (ps_for PassesOwn.never rfl (pi_list (pv 1)) (pg_name (i := 3) nd rfl (Or.inl rfl)) <|
        pss_cons (ps_set (i := 4) nd rfl (Or.inl rfl) (pe_mt (pv 2) T.cl_Parting T.mt_Parting_place (ok_Parting_place T n) hr (pa_cons (pv 3) pa_nil))) <|
        pss_one <| ps_if (pt_cmp (pc_notN (pv 4))) (pss_one <| ps_ret (pe_tup (pa_cons pe_non (pa_cons (pe_callB (cr_sortedSetT rfl) (by rfl) T.f_sorted (by decide +kernel) (pa_cons
          (pe_scT (own := [("one", 5)]) (g := gName 5) rfl nd (pi_list (pv 4)) (blkOk_by (N := ["families", "units", "parting", "unit", "pushed", "one"]) (sc := defScope s_all_placed) (by decide +kernel)) (fun _ _ _ _ _ => pg_name (i := 5) nd rfl (Or.inl rfl)) (fun _ _ _ _ _ => pts_nil) (fun _ _ _ _ _ => pe_ix (ixTup K) (pv 5) pe_int (fun _ _ => rfl))) pa_nil)) pa_nil)))) pss_nil) <|
      pss_one <| ps_ret (pe_tup (pa_cons (pe_mt0 (pv 2) T.cl_Parting T.mt_Parting_told (ok_Parting_told T) (hr.mono (by omega))) (pa_cons pe_non pa_nil))), ?_⟩
    have F := G.fam a i g
    have few := F.few
    have ndE := F.mat.nd
    have lus : us.length = i.E.length := Paired.length pu
    refine ⟨_, rfl, fun x dx hx hdx hne => ?_⟩
    refine ⟨x, dx, fl, a, k, rfl, upd_same, by rw [upd_ne (ne_of_none hf hx), upd_ne (ne_of_none hf hdx)]; exact hf, hk, fun H2 ll lvs ex ho hll ln ndl hb nl => ⟨rfl, ?_⟩⟩
    obtain ⟨s2, Pa0, fr⟩ := PartAt.new hx hdx hf ex ho hll ln ndl hb nl
    have r2 : Rg Γ H H2 := .of_same G.caches s2
    refine ⟨_, rfl, ul, rfl, ⟨_, SqL.of (s2 _ _ hul)⟩, ?_⟩
    refine forL (xs := us) (fun j σ H3 => ∃ (o3 o4 o5 : Option V) (L : List (List Str)), σ = [some (.ref fl), some (.ref ul), some (.ref x), o3, o4, o5] ∧ Rg Γ H H3 ∧ PartAt K H3 x a fl ll k lvs L ∧ GoodL i.E i.r k L ∧ ∀ y ∈ i.E, uni k (SL L) y = mem (i.E.take j) y)
      (fun j σ H3 ⟨_, _, _, _, _, r, _⟩ => SqL.of (r.st.lst hul)) ⟨none, none, none, _, rfl, r2, Pa0, good_empty F.mat k, fun y _ => by rw [uni_empty]; rfl⟩ ?_ ?_
    · rintro σ H3 ⟨o3, o4, o5, L, rfl, r3, Pa3, G3, hun⟩
      obtain ⟨dx3, ho3⟩ := Pa3.ob
      rw [lus, List.take_length] at hun
      have cov := cov_yes F.mat G3.good (fun y hy => by rw [hun y hy]; exact mem_t.mpr hy)
      refine ⟨_, rfl, x, dx3, _, rfl, ho3, lk2 (by decide +kernel) (by decide +kernel), ?_⟩
      refine ⟨x, a, fl, ll, k, lvs, L, rfl, Pa3, fun l hl => Nat.le_trans (sub_len ndE (G3.nd l hl) (G3.inE l hl)) few, hk, fun H4 q ws s4 hq hq4 => ⟨len2, fun p hp => ?_⟩⟩
      have r4 : Rg Γ H H4 := r3.same s4
      exact kY cov _ p q (Rg.put G.caches r4 (r4.free hp)) upd_same
    · rintro j v σ H3 hj ⟨o3, o4, o5, L, rfl, r3, Pa3, G3, hun⟩ N hN
      obtain ⟨y, hy, u, rfl, hu0⟩ := paired_at pu hj
      have yE := List.mem_of_getElem? hy
      have ny := not_in_take ndE hy
      obtain ⟨dx3, ho3⟩ := Pa3.ob
      have huy : uni k (SL L) y = false := by rw [hun y yE]; exact mem_f.mpr ny
      refine ⟨_, rfl, x, dx3, _, rfl, ho3, lk2 (by decide +kernel) (by decide +kernel), _, rfl, ?_⟩
      refine ⟨Γ, x, a, fl, ll, u, k, lvs, L, i, y, rfl, G.step r3, g, hd, Pa3, G3, r3.st.tup hu0, yE, huy, hk, fun H4 L' pl Pa4 G4 hun4 => ?_, fun H4 p ws ys r4 hp pws cl hyin ndys lys inE => ?_⟩
      · refine ⟨_, rfl, _, rfl, ifF (by rw [decide_eq_true rfl]; rfl) ?_⟩
        refine hN _ _ ⟨_, _, _, L', rfl, pl.rg fr r3, Pa4, G4, fun z hz => ?_⟩
        rw [hun4, hun z hz, take_snoc hy, mem_app]; rfl
      · refine ⟨_, rfl, _, rfl, ifT (by rw [decide_eq_false (fun q => nomatch q)]; rfl) ?_⟩
        have nc := cov_no F.mat G3.good cl yE (mem_t.mpr hyin) huy
        have r34 := r3.trans r4
        refine ⟨_, rfl, p, rfl, ⟨_, SqL.of hp⟩, fun D hD => ?_⟩
        refine scU (H0 := H4) (fun H' s => SqL.of (s _ _ hp)) ndys (Paired.length pws) (by omega) (fun _ => rfl) hD (same_new hD) (fun m v z H5 Qv hv hz s5 q => ?_) fun H5 l s5 hD5 ll5 => ?_
        · obtain ⟨z', hz', u', rfl, hu'⟩ := paired_at pws hv
          rw [hz] at hz'
          cases hz'
          refine ⟨_, rfl, u', _, 0, _, rfl, rfl, SqT.of (s5 _ _ hu'), atI_nat (j := 0) rfl, ?_⟩
          exact q H5 (Same.refl _)
        · refine ⟨D, l, rfl, hD5, by omega, fun zs q hq => ⟨len2, fun p' hp' => ?_⟩⟩
          have r5 : Rg Γ H H5 := r34.same s5
          have r6 : Rg Γ H (upd H5 q (.lst (zs.map V.str))) := Rg.put G.caches r5 (r5.free hq)
          exact kN nc _ p' (.ref q) (Rg.put G.caches r6 (r6.free hp')) upd_same
/-- k times one family -/
theorem rep_flat (k : Nat) (v : V) : (List.replicate k [v]).flatten = List.replicate k v := by
  induction k with
  | zero => rfl
  | succ k ih => rw [List.replicate_succ, List.flatten_cons, ih, List.replicate_succ]; rfl
def spCov (K : PySem.W.Frag) (n : Nat) : Sp := fun vs H Q _ => ∃ (Γ : Gh) (a : Addr) (i : FInfo) (k : Nat), vs = [.ref a, .int k] ∧ Good K Γ H ∧ Γ a = some i ∧ i.dep < n ∧ k ≤ 24 ∧
  (CovOK i.E i.r k → ∀ H' q, Rg Γ H H' → Q (.ref q) H') ∧ (¬ CovOK i.E i.r k → ∀ H', Rg Γ H H' → Q .non H')
theorem sc_covered : FnScope ["family", "k"] ["family", "k"] (defScope s_covered) := ⟨rfl, rfl, rfl, by decide +kernel, rfl, by decide +kernel, by decide +kernel⟩
theorem ok_covered (T : TX K mg) (n : Nat) : FOk P w K mg base (2 * n + 6) ("covered", none) ["family", "k"] (spCov K n) := by
  refine T.fn 27 (d := d_covered) rfl rfl rfl sc_covered (fun vs H Q E h => ?_) (fun _ _ _ _ _ _ us hl => match us, hl with | [_, _], _ => rfl) (fun cdv A outer s H vs Q E hr h => ?_)
  · obtain ⟨Γ, a, i, k, rfl, _⟩ := h; rfl
  · obtain ⟨Γ, a, i, k, rfl, G, g, hd, hk, kY, kN⟩ := h
    refine ⟨_, pss_cons (ps_expr (pe_cl (ok_need_lots T) (hr.mono (by omega)) T.g_need_lots (pa_cons (pv 1) pa_nil))) <|
      pss_one <| ps_ret (pe_ix ix_tup (pe_cl (ok_all_placed T n) hr T.g_all_placed (pa_cons (pe_op op_rep (pe_lst (pa_cons (pv 0) pa_nil)) (pv 1)) (pa_cons (pe_cl (ok_copies T) (hr.mono (by omega)) T.g_copies (pa_cons (pe_fld (pv 0) rfl) (pa_cons pe_int pa_nil))) pa_nil))) pe_int (fun _ _ => rfl)), ?_⟩
    have F := G.fam a i g
    obtain ⟨dx, hob⟩ := F.ob
    have few := F.few
    refine ⟨_, rfl, (k : Int), rfl, by omega, by omega, ?_⟩
    refine ⟨_, rfl, len1, fun l hl => ⟨_, rfl, l, (k : Int), _, rfl, rfl, upd_same, by omega, by omega, by rw [sizeLine_eq]; simp; omega, fun fl hfl => ?_⟩⟩
    have s1 : Same H (upd H l (.lst [.ref a])) := same_new hl
    have s2 : Same H (upd (upd H l (.lst [.ref a])) fl (.lst (List.replicate (k : Int).toNat [.ref a]).flatten)) := same_put s1 (s1.free hfl)
    have hf2 : (upd (upd H l (.lst [.ref a])) fl (.lst (List.replicate (k : Int).toNat [.ref a]).flatten)) fl = some (.lst (List.replicate k (.ref a))) := by
      rw [upd_same, rep_flat]; rfl
    generalize upd (upd H l (.lst [.ref a])) fl (.lst (List.replicate (k : Int).toNat [.ref a]).flatten) = H2 at *
    refine ⟨_, rfl, a, _, dx, _, _, rfl, s2 _ _ hob, T.cl_Family, T.na_Family_names, famF_names _ _ _, i.nt, i.E, rfl, SqT.of (s2 _ _ F.nm), by omega, fun H3 ul us s3 hul hul3 pu => ?_⟩
    have r3 : Rg Γ H H3 := .of_same G.caches (s2.trans s3)
    refine ⟨Γ, fl, ul, a, i, k, us, rfl, G.step r3, g, hd, s3 _ _ hf2, by omega, hul3, pu, fun c H4 p q r4 hp => ?_, fun nc H4 p v r4 hp => ?_⟩
    · exact ⟨p, _, 0, _, rfl, rfl, SqT.of hp, atI_nat (j := 0) rfl, kY c H4 q (r3.trans r4)⟩
    · exact ⟨p, _, 0, _, rfl, rfl, SqT.of hp, atI_nat (j := 0) rfl, kN nc H4 (r3.trans r4)⟩
end
end BF
set_option Elab.async false
set_option linter.all false
set_option maxRecDepth 100000
set_option maxHeartbeats 4000000
/-! most_placed, packed. -/
namespace BF
open PySem PySem.Spec PyProof.Rows L2
/-- no lot takes y any more -/
def Full (E : List Str) (r : List Str → Nat) (k : Nat) (S : Sts Str) (y : Str) : Prop := ∃ Y : Str → Bool, Y y = true ∧ k * rho E r Y ≤ crd E (pand (uni k S) Y)
theorem Full.mono {E : List Str} {r : List Str → Nat} {k : Nat} {S S' : Sts Str} {y : Str} (h : Full E r k S y) (s : ∀ x, uni k S x = true → uni k S' x = true) : Full E r k S' y := by
  obtain ⟨Y, h1, h2⟩ := h
  refine ⟨Y, h1, Nat.le_trans h2 (crd_mono fun x _ q => ?_)⟩
  obtain ⟨a, b⟩ := pand_t.mp q
  exact pand_t.mpr ⟨s x a, b⟩
theorem Full.never {E : List Str} {r : List Str → Nat} {k : Nat} {S S' : Sts Str} {y : Str} (m : Mat E r) (h : Full E r k S y) (G : GoodS E r k S') (yE : y ∈ E) (n : uni k S y = false) (s : ∀ x, uni k S' x = (uni k S x || decide (x = y))) : False := by
  obtain ⟨Y, h1, h2⟩ := h
  have h3 := G.sum_le m Y
  have : crd E (pand (uni k S') Y) = crd E (pand (uni k S) Y) + 1 := by
    rw [← crd_pin (p := pand (uni k S) Y) m.nd yE (by unfold pand; rw [n]; rfl)]
    refine crd_congr fun x _ => ?_
    unfold pand pin
    rw [s x]
    by_cases e : x = y
    · subst e; simp [h1]
    · simp [e]
  omega
theorem paired_imp_mem {β γ : Type} {F F' : β → γ → Prop} : ∀ {xs : List β} {ys : List γ}, Paired F xs ys → (∀ x y, y ∈ ys → F x y → F' x y) → Paired F' xs ys
  | _, _, .nil, _ => .nil
  | _, _, .cons a t, h => .cons (h _ _ List.mem_cons_self a) (paired_imp_mem t fun x y hy => h x y (List.mem_cons_of_mem _ hy))
theorem paired_imp_left {β γ : Type} {F F' : β → γ → Prop} : ∀ {xs : List β} {ys : List γ}, Paired F xs ys → (∀ x y, x ∈ xs → F x y → F' x y) → Paired F' xs ys
  | _, _, .nil, _ => .nil
  | _, _, .cons a t, h => .cons (h _ _ List.mem_cons_self a) (paired_imp_left t fun x y hy => h x y (List.mem_cons_of_mem _ hy))
def spMostP (K : PySem.W.Frag) (n : Nat) : Sp := fun vs H Q _ => ∃ (Γ : Gh) (fl ul a : Addr) (i : FInfo) (k : Nat) (us : List V), vs = [.ref fl, .ref ul] ∧ Good K Γ H ∧ Γ a = some i ∧ i.dep < n ∧ H fl = some (.lst (List.replicate k (.ref a))) ∧ k ≤ 1000 ∧ H ul = some (.lst us) ∧ Paired (UnitAt H) us i.E ∧
  ∀ H' p q v mm, Rg Γ H H' → H' p = some (.tup [.ref q, .int ((mm : Nat) : Int), .ref v]) → (mm = k * rho i.E i.r full ↔ PackOK i.E i.r k) → Q (.ref p) H'
theorem sc_most_placed : FnScope ["families", "units", "parting", "left", "unit", "things", "one"] ["families", "units"] (defScope s_most_placed) := ⟨rfl, rfl, rfl, by decide +kernel, rfl, by decide +kernel, by decide +kernel⟩
theorem len3 {x y z : V} : [x, y, z].length ≤ sizeLine := by rw [sizeLine_eq]; simp
theorem seenK_put {ks : List Str} {x : Str} : putK (seenK ks) (Sum.inr x : Key) (.bl true) = seenK (if x ∈ ks then ks else ks ++ [x]) := by
  by_cases h : x ∈ ks
  · rw [if_pos h]
    have := dictF_put (g := fun _ => V.bl true) (p := x) (y := .bl true) (ps := ks) h
    have e : (fun q : Str => if q = x then V.bl true else V.bl true) = fun _ => V.bl true := by funext q; split <;> rfl
    rw [e] at this
    exact this
  · rw [if_neg h, putK_new _ (seenK_none h)]
    exact (List.map_append (f := fun x => ((Sum.inr x : Key), V.bl true)) (l₁ := ks) (l₂ := [x])).symm
section
variable {P : Program} {w : World} {K : PySem.W.Frag} {mg : Str → Option Value} {base : Heap}
theorem ok_most_placed (T : TX K mg) (n : Nat) : FOk P w K mg base (2 * n + 5) ("most_placed", none) ["families", "units"] (spMostP K n) := by
  refine T.fn 24 (d := d_most_placed) rfl rfl rfl sc_most_placed (fun vs H Q E h => ?_) (fun _ _ _ _ _ _ us hl => match us, hl with | [_, _], _ => rfl) (fun cdv A outer s H vs Q E hr h => ?_)
  · obtain ⟨Γ, fl, ul, a, i, k, us, rfl, _⟩ := h; rfl
  · obtain ⟨Γ, fl, ul, a, i, k, us, rfl, G, g, hd, hf, hk, hul, pu, kk⟩ := h
    have nd := sc_most_placed.nd
    have hu := hu_of hr
    refine ⟨_, pss_cons (ps_set (i := 2) nd rfl (Or.inl rfl) (pe_mk T.mk_Parting (ok_Parting_init T) (hr.mono (by omega)) T.g_Parting (pa_cons (pv 0) pa_nil))) <|
      pss_cons (ps_set (i := 3) nd rfl (Or.inl rfl) (pe_lst pa_nil)) <|
      pss_cons (ps_for PassesOwn.never rfl (pi_list (pv 1)) (pg_name (i := 4) nd rfl (Or.inl rfl)) <|
        pss_one <| ps_if (pt_cmp (pc_notN (pe_mt (pv 2) T.cl_Parting T.mt_Parting_place (ok_Parting_place T n) hr (pa_cons (pv 4) pa_nil)))) (pss_one (ps_expr (pe_bm PySem.F.plainAttrs_list PySem.F.slot_list_append PySem.F.type_list_append mt_append (pv 3) (pa_cons (pv 4) pa_nil)))) pss_nil) <|
      pss_cons (ps_set (i := 5) nd rfl (Or.inl rfl) pe_dnewK) <|
      pss_cons (ps_for PassesOwn.never rfl (pi_list (pv 3)) (pg_name (i := 4) nd rfl (Or.inl rfl)) <|
        pss_one <| ps_for PassesOwn.never rfl (pi_list (pe_mt (pv 2) T.cl_Parting T.mt_Parting_place (ok_Parting_place T n) hr (pa_cons (pv 4) pa_nil))) (pg_name (i := 6) nd rfl (Or.inl rfl)) <|
          pss_one <| ps_dput hu (pv 5) (pe_ix ix_tup (pv 6) pe_int (fun _ _ => rfl)) pe_bl rfl) <|
      pss_one <| ps_ret (pe_tup (pa_cons (pe_mt0 (pv 2) T.cl_Parting T.mt_Parting_told (ok_Parting_told T) (hr.mono (by omega))) (pa_cons (pe_op op_sub (pe_callB call_len_seq (by rfl) T.f_len (by decide +kernel) (pa_cons (pv 1) pa_nil)) (pe_callB call_len_seq (by rfl) T.f_len (by decide +kernel) (pa_cons (pv 3) pa_nil)))
          (pa_cons (pe_callB cr_sortedS (by rfl) T.f_sorted (by decide +kernel) (pa_cons (pe_callTy (call_listD rfl) (by rfl) T.f_list (by decide +kernel) (pa_cons (pv 5) pa_nil)) pa_nil)) pa_nil)))), ?_⟩
    have F := G.fam a i g
    have few := F.few
    have ndE := F.mat.nd
    have lus : us.length = i.E.length := Paired.length pu
    refine ⟨_, rfl, fun x dx hx hdx hne => ?_⟩
    refine ⟨x, dx, fl, a, k, rfl, upd_same, by rw [upd_ne (ne_of_none hf hx), upd_ne (ne_of_none hf hdx)]; exact hf, hk, fun H2 ll lvs ex ho hll ln ndl hb nl => ⟨rfl, ?_⟩⟩
    obtain ⟨s2, Pa0, fr⟩ := PartAt.new hx hdx hf ex ho hll ln ndl hb nl
    refine ⟨by rw [sizeLine_eq]; simp, fun lf hlf => ?_⟩
    have s2' : Same H2 (upd H2 lf (.lst [])) := same_new hlf
    have r2 : Rg Γ H (upd H2 lf (.lst [])) := .of_same G.caches (s2.trans s2')
    have lfn : lf ∉ lvs := fun m => by rw [(hb lf m).2] at hlf; cases hlf
    have lfH : H lf = none := s2.free hlf
    have Pa0' := Pa0.stp (.of_same (Γ := Γ) s2')
    have hlf0 : upd H2 lf (.lst []) lf = some (.lst []) := upd_same
    generalize upd H2 lf (.lst []) = H2' at *
    refine ⟨_, rfl, ul, rfl, ⟨_, SqL.of (r2.st.lst hul)⟩, ?_⟩
    refine forL (xs := us) (fun j σ H3 => ∃ (o4 o5 o6 : Option V) (L : List (List Str)) (lu : List V), σ = [some (.ref fl), some (.ref ul), some (.ref x), some (.ref lf), o4, o5, o6] ∧ Rg Γ H H3 ∧ PartAt K H3 x a fl ll k lvs L ∧ GoodL i.E i.r k L ∧ (∀ y ∈ i.E, uni k (SL L) y = true → y ∈ i.E.take j) ∧
        H3 lf = some (.lst lu) ∧ Paired (UnitAt H3) lu ((i.E.take j).filter fun y => !uni k (SL L) y) ∧ ∀ y ∈ i.E.take j, uni k (SL L) y = false → Full i.E i.r k (SL L) y)
      (fun j σ H3 ⟨_, _, _, _, _, _, r, _⟩ => SqL.of (r.st.lst hul)) ⟨none, none, none, _, [], rfl, r2, Pa0', good_empty F.mat k, fun y _ h => (by rw [uni_empty] at h; cases h), hlf0, .nil, fun y hy => (by rw [List.take_zero] at hy; cases hy)⟩ ?_ ?_
    · rintro σ H3 ⟨o4, o5, o6, L, lu, rfl, r3, Pa3, G3, hin, hlu, plu, hfull⟩
      rw [lus, List.take_length] at plu hfull
      intro td htd
      have tdH : H td = none := r3.free htd
      have s4 : Same H3 (upd H3 td (.dK [])) := same_new htd
      have r4 : Rg Γ H (upd H3 td (.dK [])) := r3.same s4
      have Pa4 := Pa3.stp (.of_same (Γ := Γ) s4)
      have hlu4 := s4 _ _ hlu
      have ltd : td ≠ lf := fun e => by rw [e, hlu] at htd; cases htd
      have plu4 := Paired.imp (fun v z q => UnitAt.same s4 q) plu
      have hd4 : upd H3 td (.dK []) td = some (.dK (seenK [])) := upd_same
      generalize upd H3 td (.dK []) = H4 at *
      generalize hlx : (i.E.filter fun y => !uni k (SL L) y) = lx at *
      have llx : lu.length = lx.length := Paired.length plu
      have lxm : ∀ y, y ∈ lx ↔ y ∈ i.E ∧ uni k (SL L) y = false := fun y => by
        rw [← hlx, List.mem_filter]
        exact ⟨fun h => ⟨h.1, by cases e : uni k (SL L) y with
          | false => rfl
          | true => have := h.2; rw [e] at this; cases this⟩, fun h => ⟨h.1, by rw [h.2]; rfl⟩⟩
      refine ⟨_, rfl, lf, rfl, ⟨_, SqL.of hlu4⟩, ?_⟩
      refine forL (xs := lu) (fun t σ H5 => ∃ (o4 o6 : Option V) (ks : List Str), σ = [some (.ref fl), some (.ref ul), some (.ref x), some (.ref lf), o4, some (.ref td), o6] ∧ Rg Γ H H5 ∧ PartAt K H5 x a fl ll k lvs L ∧ H5 lf = some (.lst lu) ∧ Paired (UnitAt H5) lu lx ∧
          H5 td = some (.dK (seenK ks)) ∧ ks.Nodup ∧ (∀ y ∈ ks, y ∈ i.E) ∧ Closed i.E i.r k (SL L) (mem ks) ∧ ∀ y ∈ lx.take t, y ∈ ks)
        (fun t σ H5 ⟨_, _, _, _, _, _, h, _⟩ => SqL.of h) ⟨_, _, [], rfl, r4, Pa4, hlu4, plu4, hd4, List.nodup_nil, fun y hy => (by cases hy), fun y _ h => (by cases h), fun y hy => (by rw [List.take_zero] at hy; cases hy)⟩ ?_ ?_
      · rintro σ H5 ⟨p4, p6, ks, rfl, r5, Pa5, hlu5, plu5, hd5, ndk, kE, cl, hall⟩
        rw [llx, List.take_length] at hall
        obtain ⟨dx5, ho5⟩ := Pa5.ob
        have lks : ks.length ≤ 14 := Nat.le_trans (sub_len ndE ndk kE) few
        refine ⟨_, rfl, x, dx5, _, rfl, ho5, lk2 (by decide +kernel) (by decide +kernel), ?_⟩
        refine ⟨x, a, fl, ll, k, lvs, L, rfl, Pa5, fun l hl => Nat.le_trans (sub_len ndE (G3.nd l hl) (G3.inE l hl)) few, hk, fun H6 q wl s6 hq hq6 => ?_⟩
        have r6 := r5.same s6
        refine ⟨_, rfl, ul, us, rfl, .inl (SqL.of (r6.st.lst hul)), _, rfl, lf, lu, rfl, .inl (SqL.of (s6 _ _ hlu5)), _, _, rfl, rfl, ?_⟩
        have ek : ((seenK ks).map fun kv => kV kv.1) = txs ks := by rw [List.map_map]; rfl
        refine ⟨_, rfl, td, _, rfl, .inl (s6 _ _ hd5), fun pl hpl => ?_⟩
        rw [ek]
        have s7 : Same H6 (upd H6 pl (.lst (txs ks))) := same_new hpl
        refine ⟨pl, ks, rfl, SqL.of upd_same, by omega, fun ys pv' pm srt hpv => ⟨len3, fun p hp => ?_⟩⟩
        have r7 := r6.same s7
        have r8 : Rg Γ H (upd (upd H6 pl (.lst (txs ks))) pv' (.lst (txs ys))) := Rg.put G.caches r7 (r7.free hpv)
        have r9 := Rg.put (o := .tup [.ref q, .int ((us.length : Nat) - (lu.length : Nat) : Int), .ref pv']) G.caches r8 (r8.free hp)
        have cu : crd i.E (uni k (SL L)) + lx.length = i.E.length := by
          have := len_two (uni k (SL L)) i.E
          unfold crd
          rw [← hlx]
          exact this.symm
        have em : ((us.length : Nat) : Int) - ((lu.length : Nat) : Int) = ((crd i.E (uni k (SL L)) : Nat) : Int) := by omega
        refine kk _ p q pv' (crd i.E (uni k (SL L))) r9 (by rw [upd_same, ← em]) ⟨fun e => ?_, fun pk => ?_⟩
        · exact pack_yes F.mat G3.good (Nat.le_of_eq e.symm)
        · apply Classical.byContradiction
          intro ne
          have le := G3.good.sum_le F.mat full
          have e2 : crd i.E (pand (uni k (SL L)) full) = crd i.E (uni k (SL L)) := crd_congr fun z _ => by unfold pand full; simp
          rw [e2] at le
          exact pack_no F.mat G3.good cl (fun z hz hu => mem_t.mpr (hall z ((lxm z).mpr ⟨hz, hu⟩))) (by unfold full at *; omega) pk
      · rintro t v σ H5 ht ⟨p4, p6, ks, rfl, r5, Pa5, hlu5, plu5, hd5, ndk, kE, cl, hall⟩ N hN
        obtain ⟨y, hy, u, rfl, hu5⟩ := paired_at plu5 ht
        obtain ⟨yE, huy⟩ := (lxm y).mp (List.mem_of_getElem? hy)
        obtain ⟨dx5, ho5⟩ := Pa5.ob
        refine ⟨_, rfl, x, dx5, _, rfl, ho5, lk2 (by decide +kernel) (by decide +kernel), _, rfl, ?_⟩
        refine ⟨Γ, x, a, fl, ll, u, k, lvs, L, i, y, rfl, G.step r5, g, hd, Pa5, G3, hu5, yE, huy, hk, fun H6 L' pl Pa6 G6 hun6 => ?_, fun H6 p ws ys r6 hp pws cl6 hyin ndys lys inE => ?_⟩
        · exact ((hfull y yE huy).never F.mat G6.good yE huy hun6).elim
        · have r56 := r5.trans r6
          refine ⟨p, rfl, ⟨_, SqL.of hp⟩, ?_⟩
          have tp : td ≠ p := fun e => by
            have := r6.st.dK hd5
            rw [e, hp] at this; cases this
          refine forL (xs := ws) (fun m σ H7 => ∃ (o6 : Option V) (ks' : List Str), σ = [some (.ref fl), some (.ref ul), some (.ref x), some (.ref lf), some (.ref u), some (.ref td), o6] ∧ Rg Γ H H7 ∧ PartAt K H7 x a fl ll k lvs L ∧ H7 lf = some (.lst lu) ∧ Paired (UnitAt H7) lu lx ∧
              H7 td = some (.dK (seenK ks')) ∧ ks'.Nodup ∧ (∀ y ∈ ks', y ∈ i.E) ∧ H7 p = some (.lst ws) ∧ Paired (UnitAt H7) ws ys ∧ ∀ z, z ∈ ks' ↔ z ∈ ks ∨ z ∈ ys.take m)
            (fun m σ H7 ⟨_, _, _, _, _, _, _, _, _, _, h, _⟩ => SqL.of h) ⟨_, ks, rfl, r56, Pa5.stp r6.st, r6.st.lst hlu5, Paired.imp (fun _ _ q => q.stp r6.st) plu5, r6.st.dK hd5, ndk, kE, hp, pws, fun z => ⟨.inl, fun h => h.elim id fun h => (by rw [List.take_zero] at h; cases h)⟩⟩ ?_ ?_
          · rintro σ H7 ⟨q6, ks', rfl, r7, Pa7, hlu7, plu7, hd7, ndk7, kE7, hp7, pws7, hks⟩
            rw [Paired.length pws, List.take_length] at hks
            refine hN _ _ ⟨_, _, ks', rfl, r7, Pa7, hlu7, plu7, hd7, ndk7, kE7, ?_, fun z hz => ?_⟩
            · have e : mem ks' = por (mem ks) (mem ys) := by
                funext z
                rw [Bool.eq_iff_iff, mem_t, por_t, mem_t, mem_t]
                exact hks z
              rw [e]
              exact cl.or cl6
            · rw [take_snoc hy] at hz
              rcases List.mem_append.mp hz with hz | hz
              · exact (hks z).mpr (.inl (hall z hz))
              · rw [List.mem_singleton.mp hz]; exact (hks y).mpr (.inr hyin)
          · rintro m v7 σ H7 hm ⟨q6, ks', rfl, r7, Pa7, hlu7, plu7, hd7, ndk7, kE7, hp7, pws7, hks⟩ N2 hN2
            obtain ⟨z, hz, b, rfl, hb7⟩ := paired_at pws7 hm
            have lks : ks'.length ≤ 14 := Nat.le_trans (sub_len ndE ndk7 kE7) few
            refine ⟨_, rfl, _, rfl, b, _, 0, _, rfl, rfl, SqT.of hb7, atI_nat (j := 0) rfl, td, _, rfl, DPut.k (k := .inr z) hd7 (by rw [List.length_map, sizeLine_eq]; omega), ?_⟩
            rw [seenK_put]
            have tup8 : ∀ {c : Addr} {xs : List V} {o : HO}, H7 c = some (.tup xs) → upd H7 td o c = some (.tup xs) := fun h => by
              rw [upd_ne (fun e => by rw [e, hd7] at h; cases h)]; exact h
            have lst8 : ∀ {c : Addr} {xs : List V} {o : HO}, H7 c = some (.lst xs) → upd H7 td o c = some (.lst xs) := fun h => by
              rw [upd_ne (fun e => by rw [e, hd7] at h; cases h)]; exact h
            have un8 : ∀ (o : HO) v w', UnitAt H7 v w' → UnitAt (upd H7 td o) v w' := fun o v w' ⟨c, e, h⟩ => ⟨c, e, tup8 h⟩
            have Pa8 : ∀ o : HO, PartAt K (upd H7 td o) x a fl ll k lvs L := fun o => by
              obtain ⟨dx7, ho7⟩ := Pa7.ob
              exact ⟨⟨dx7, by rw [upd_ne (fun e => by rw [e, hd7] at ho7; cases ho7)]; exact ho7⟩, lst8 Pa7.fm, lst8 Pa7.lt, Pa7.ln, Pa7.nd, Pa7.nf, Pa7.nl, Paired.imp (fun c l q => let ⟨w2, h1, h2⟩ := q; ⟨w2, lst8 h1, Paired.imp (un8 o) h2⟩) Pa7.ls⟩
            have zE := inE z (List.mem_of_getElem? hz)
            refine hN2 _ _ ⟨_, (if z ∈ ks' then ks' else ks' ++ [z]), rfl, Rg.put G.caches r7 tdH, Pa8 _, lst8 hlu7, Paired.imp (un8 _) plu7, upd_same, ?_, ?_, lst8 hp7, Paired.imp (un8 _) pws7, fun w' => ?_⟩
            · by_cases h : z ∈ ks'
              · rw [if_pos h]; exact ndk7
              · rw [if_neg h]
                exact List.nodup_append.mpr ⟨ndk7, by simp, fun c hc d hd q => by
                  have : d = z := by simpa using hd
                  subst this; subst q; exact h hc⟩
            · intro w' hw
              by_cases h : z ∈ ks'
              · rw [if_pos h] at hw; exact kE7 w' hw
              · rw [if_neg h] at hw
                rcases List.mem_append.mp hw with hw | hw
                · exact kE7 w' hw
                · rw [List.mem_singleton.mp hw]; exact zE
            · rw [take_snoc hz, List.mem_append, List.mem_singleton]
              by_cases h : z ∈ ks'
              · rw [if_pos h, hks w']
                constructor
                · rintro (q | q)
                  · exact .inl q
                  · exact .inr (.inl q)
                · rintro (q | q | q)
                  · exact .inl q
                  · exact .inr q
                  · rw [q]; exact (hks z).mp h
              · rw [if_neg h, List.mem_append, List.mem_singleton, hks w']
                constructor
                · rintro ((q | q) | q)
                  · exact .inl q
                  · exact .inr (.inl q)
                  · exact .inr (.inr q)
                · rintro (q | q | q)
                  · exact .inl (.inl q)
                  · exact .inl (.inr q)
                  · exact .inr q
    · rintro j v σ H3 hj ⟨o4, o5, o6, L, lu, rfl, r3, Pa3, G3, hin, hlu, plu, hfull⟩ N hN
      obtain ⟨y, hy, u, rfl, hu0⟩ := paired_at pu hj
      have yE := List.mem_of_getElem? hy
      have ny := not_in_take ndE hy
      obtain ⟨dx3, ho3⟩ := Pa3.ob
      have huy : uni k (SL L) y = false := by
        cases e : uni k (SL L) y with
        | false => rfl
        | true => exact absurd (hin y yE e) ny
      refine ⟨_, rfl, x, dx3, _, rfl, ho3, lk2 (by decide +kernel) (by decide +kernel), _, rfl, ?_⟩
      refine ⟨Γ, x, a, fl, ll, u, k, lvs, L, i, y, rfl, G.step r3, g, hd, Pa3, G3, r3.st.tup hu0, yE, huy, hk, fun H4 L' pl Pa4 G4 hun4 => ?_, fun H4 p ws ys r4 hp pws cl hyin ndys lys inE => ?_⟩
      · refine ⟨_, rfl, ifF (by rw [decide_eq_true rfl]; rfl) ?_⟩
        have r4 := pl.rg fr r3
        refine hN _ _ ⟨_, _, _, L', lu, rfl, r4, Pa4, G4, fun z hz h => ?_, pl.lst lfn hlu, ?_, fun z hz h => ?_⟩
        · rw [hun4, Bool.or_eq_true] at h
          rw [take_snoc hy]
          rcases h with h | h
          · exact List.mem_append_left _ (hin z hz h)
          · exact List.mem_append_right _ (by rw [of_decide_eq_true h]; exact List.mem_cons_self)
        · have e : (i.E.take (j + 1)).filter (fun z => !uni k (SL L') z) = (i.E.take j).filter fun z => !uni k (SL L) z := by
            rw [take_snoc hy, List.filter_append]
            have : ([y] : List Str).filter (fun z => !uni k (SL L') z) = [] := by
              rw [List.filter_cons, hun4 y]; simp
            rw [this, List.append_nil]
            refine List.filter_congr fun z hz => ?_
            have : ¬ z = y := fun q => ny (q ▸ hz)
            rw [hun4 z]; simp [this]
          rw [e]
          refine paired_imp_mem plu fun v z hz q => ?_
          obtain ⟨b, eb, hb'⟩ := q
          exact ⟨b, eb, pl.tup (Pa3.nin hb' fun _ e => nomatch e) hb'⟩
        · rw [hun4, Bool.or_eq_false_iff] at h
          have zy : z ≠ y := of_decide_eq_false h.2
          rw [take_snoc hy] at hz
          rcases List.mem_append.mp hz with hz | hz
          · exact (hfull z hz h.1).mono fun q hq => by rw [hun4, hq]; rfl
          · exact absurd (List.mem_singleton.mp hz) zy
      · refine ⟨_, rfl, ifT (by rw [decide_eq_false (fun q => nomatch q)]; rfl) ?_⟩
        have r34 := r3.trans r4
        have hlu4 := r4.st.lst hlu
        have llu : lu.length ≤ 14 := by rw [Paired.length plu]; exact Nat.le_trans (List.length_filter_le _ _) (by rw [List.length_take]; omega)
        refine ⟨_, rfl, .inl ⟨rfl, _, SqL.of hlu4⟩, _, rfl, lf, lu, _, rfl, rfl, hlu4, by rw [sizeLine_eq]; omega, ?_⟩
        have tup5 : ∀ {b : Addr} {xs : List V}, H4 b = some (.tup xs) → upd H4 lf (.lst (lu ++ [.ref u])) b = some (.tup xs) := fun h => by
          rw [upd_ne (fun e => by rw [e, hlu4] at h; cases h)]; exact h
        have Pa5 : PartAt K (upd H4 lf (.lst (lu ++ [.ref u]))) x a fl ll k lvs L := by
          have Pa4 := Pa3.stp r4.st
          obtain ⟨dx4, ho4⟩ := Pa4.ob
          refine ⟨⟨dx4, by rw [upd_ne (fun e => by rw [e, hlu4] at ho4; cases ho4)]; exact ho4⟩, ?_, ?_, Pa4.ln, Pa4.nd, Pa4.nf, Pa4.nl, ?_⟩
          · rw [upd_ne (fun e => by rw [e, lfH] at hf; cases hf)]; exact Pa4.fm
          · rw [upd_ne (fun e => by rw [e] at hll; rw [hll] at hlf; cases hlf)]; exact Pa4.lt
          · refine paired_imp_left Pa4.ls fun b l hbm q => ?_
            obtain ⟨ws2, h1, h2⟩ := q
            exact ⟨ws2, by rw [upd_ne (fun e => lfn (by rw [← e]; exact hbm))]; exact h1, Paired.imp (fun v z ⟨b', e, h⟩ => ⟨b', e, tup5 h⟩) h2⟩
        refine hN _ _ ⟨_, _, _, L, _, rfl, Rg.put G.caches r34 lfH, Pa5, G3, fun z hz h => ?_, upd_same, ?_, fun z hz h => ?_⟩
        · rw [take_snoc hy]; exact List.mem_append_left _ (hin z hz h)
        · rw [take_snoc hy, List.filter_append]
          have : ([y] : List Str).filter (fun z => !uni k (SL L) z) = [y] := by
            rw [List.filter_cons, huy]; rfl
          rw [this]
          exact Paired.snoc (Paired.imp (fun v z q => let ⟨b', e, h⟩ := q.stp r4.st; ⟨b', e, tup5 h⟩) plu) ⟨u, rfl, tup5 (r34.st.tup hu0)⟩
        · rw [take_snoc hy] at hz
          rcases List.mem_append.mp hz with hz | hz
          · exact hfull z hz h
          · rw [List.mem_singleton.mp hz]
            exact ⟨mem ys, mem_t.mpr hyin, Nat.le_of_eq (cl.sum F.mat G3.good).symm⟩
end
end BF
set_option Elab.async false
set_option linter.all false
set_option maxRecDepth 100000
set_option maxHeartbeats 4000000
/-! packed, fewest, most. -/
namespace BF
open PySem PySem.Spec PyProof.Rows L2
def spPack (K : PySem.W.Frag) (n : Nat) : Sp := fun vs H Q _ => ∃ (Γ : Gh) (a : Addr) (i : FInfo) (k : Nat), vs = [.ref a, .int k] ∧ Good K Γ H ∧ Γ a = some i ∧ i.dep < n ∧ k ≤ 24 ∧
  (PackOK i.E i.r k → ∀ H' q, Rg Γ H H' → Q (.ref q) H') ∧ (¬ PackOK i.E i.r k → ∀ H', Rg Γ H H' → Q .non H')
theorem sc_packed : FnScope ["family", "k", "lots", "many", "_"] ["family", "k"] (defScope s_packed) := ⟨rfl, rfl, rfl, by decide +kernel, rfl, by decide +kernel, by decide +kernel⟩
def optV : Option Nat → V
  | none => .non
  | some k => .int k
def spFew (K : PySem.W.Frag) (n : Nat) : Sp := fun vs H Q _ => ∃ (Γ : Gh) (a : Addr) (i : FInfo), vs = [.ref a] ∧ Good K Γ H ∧ Γ a = some i ∧ i.dep < n ∧ ∀ H' o, Rg Γ H H' → FewIs i.E i.r o → Q (optV o) H'
def spMost (K : PySem.W.Frag) (n : Nat) : Sp := fun vs H Q _ => ∃ (Γ : Gh) (a : Addr) (i : FInfo), vs = [.ref a] ∧ Good K Γ H ∧ Γ a = some i ∧ i.dep < n ∧ ∀ H' o, Rg Γ H H' → MostIs i.E i.r o → Q (optV o) H'
theorem sc_fewest : FnScope ["family", "k"] ["family"] (defScope s_fewest) := ⟨rfl, rfl, rfl, by decide +kernel, rfl, by decide +kernel, by decide +kernel⟩
theorem sc_most : FnScope ["family", "k"] ["family"] (defScope s_most) := ⟨rfl, rfl, rfl, by decide +kernel, rfl, by decide +kernel, by decide +kernel⟩
theorem rho_full {E : List Str} {r : List Str → Nat} : rho E r full = r E := by
  unfold rho full
  rw [List.filter_eq_self.mpr (fun _ _ => rfl)]
section
variable {P : Program} {w : World} {K : PySem.W.Frag} {mg : Str → Option Value} {base : Heap}
theorem ok_packed (T : TX K mg) (n : Nat) : FOk P w K mg base (2 * n + 6) ("packed", none) ["family", "k"] (spPack K n) := by
  refine T.fn 28 (d := d_packed) rfl rfl rfl sc_packed (fun vs H Q E h => ?_) (fun _ _ _ _ _ _ us hl => match us, hl with | [_, _], _ => rfl) (fun cdv A outer s H vs Q E hr h => ?_)
  · obtain ⟨Γ, a, i, k, rfl, _⟩ := h; rfl
  · obtain ⟨Γ, a, i, k, rfl, G, g, hd, hk, kY, kN⟩ := h
    have nd := sc_packed.nd
    refine ⟨_, pss_cons (ps_expr (pe_cl (ok_need_lots T) (hr.mono (by omega)) T.g_need_lots (pa_cons (pv 1) pa_nil))) <|
      pss_cons (ps_asg (pe_cl (ok_most_placed T n) hr T.g_most_placed (pa_cons (pe_op op_rep (pe_lst (pa_cons (pv 0) pa_nil)) (pv 1)) (pa_cons (pe_cl (ok_copies T) (hr.mono (by omega)) T.g_copies (pa_cons (pe_fld (pv 0) rfl) (pa_cons pe_int pa_nil))) pa_nil)))
        (pg_tup rfl (pgs_cons (pg_name (i := 2) nd rfl (.inl rfl)) (pgs_cons (pg_name (i := 3) nd rfl (.inl rfl)) (pgs_cons (pg_name (i := 4) nd rfl (.inl rfl)) pgs_nil))))) <|
      pss_one <| ps_ret (pe_ifExp (pt_cmp (pc_eqI (pv 3) (pe_mul (pv 1) (pe_mt (pv 0) T.cl_Family T.mt_Family_rank_of (ok_rank T n) (hr.mono (by omega)) (pa_cons (pe_fld (pv 0) rfl) pa_nil))))) (pv 2) pe_non), ?_⟩
    have F := G.fam a i g
    obtain ⟨dx, hob⟩ := F.ob
    have few := F.few
    refine ⟨_, rfl, (k : Int), rfl, by omega, by omega, ?_⟩
    refine ⟨_, rfl, len1, fun l hl => ⟨_, rfl, l, (k : Int), _, rfl, rfl, upd_same, by omega, by omega, by rw [sizeLine_eq]; simp; omega, fun fl hfl => ?_⟩⟩
    have s1 : Same H (upd H l (.lst [.ref a])) := same_new hl
    have s2 : Same H (upd (upd H l (.lst [.ref a])) fl (.lst (List.replicate (k : Int).toNat [.ref a]).flatten)) := same_put s1 (s1.free hfl)
    have hf2 : (upd (upd H l (.lst [.ref a])) fl (.lst (List.replicate (k : Int).toNat [.ref a]).flatten)) fl = some (.lst (List.replicate k (.ref a))) := by
      rw [upd_same, rep_flat]; rfl
    generalize upd (upd H l (.lst [.ref a])) fl (.lst (List.replicate (k : Int).toNat [.ref a]).flatten) = H2 at *
    refine ⟨_, rfl, a, _, dx, _, _, rfl, s2 _ _ hob, T.cl_Family, T.na_Family_names, famF_names _ _ _, i.nt, i.E, rfl, SqT.of (s2 _ _ F.nm), by omega, fun H3 ul us s3 hul hul3 pu => ?_⟩
    have r3 : Rg Γ H H3 := .of_same G.caches (s2.trans s3)
    refine ⟨Γ, fl, ul, a, i, k, us, rfl, G.step r3, g, hd, s3 _ _ hf2, by omega, hul3, pu, fun H4 p q v mm r4 hp hmm => ?_⟩
    have r34 := r3.trans r4
    refine ⟨p, _, rfl, SqT.of hp, rfl, _, _, rfl, _, _, rfl, _, _, rfl, rfl, ?_⟩
    have r34ob := r34.st.ins hob
    have nm4 := r34.st.tup F.nm
    refine ⟨_, rfl, _, rfl, _, rfl, a, dx, _, rfl, r34ob, famF_no _ _ _ (by decide +kernel) (by decide +kernel) (by decide +kernel), _, rfl, a, _, dx, _, _, rfl, r34ob, T.cl_Family, T.na_Family_names, famF_names _ _ _, ?_⟩
    refine ⟨Γ, a, i.nt, i, i.E, rfl, G.step r34, g, hd, nm4, List.Sublist.refl _, fun H5 r5 => ⟨(k : Int), _, rfl, rfl, ⟨by omega, by omega⟩, _, _, rfl, rfl, _, rfl, ?_⟩⟩
    have r345 := r34.trans r5
    rw [rho_full] at hmm
    by_cases c : mm = k * i.r i.E
    · refine ifT (decide_eq_true ?_) ⟨_, rfl, kY (hmm.mp c) H5 q r345⟩
      rw [c]; push_cast; rfl
    · refine ifF (decide_eq_false fun e => c ?_) (kN (fun q => c (hmm.mpr q)) H5 r345)
      have : ((mm : Nat) : Int) = ((k * i.r i.E : Nat) : Int) := by rw [e]; push_cast; rfl
      omega
theorem strs_dp {H : Hp} : ∀ l : List Str, DpAll K H (txs l) (l.map PyData.str)
  | [] => .nil
  | x :: l => .cons (.str x) (strs_dp l)
theorem strs_shaped (l : List Str) (hok : ∀ x ∈ l, PyData.strOk x = true) : SeqAt.shaped (.list (l.map PyData.str)) = true := by
  unfold SeqAt.shaped
  rw [Bool.and_eq_true]
  constructor
  · induction l with
    | nil => simp [PyData.canLay0, PyData.canLayAll0]
    | cons x l ih =>
      have h1 := hok x List.mem_cons_self
      have h2 := ih fun y hy => hok y (List.mem_cons_of_mem _ hy)
      simp only [PyData.canLay0] at h2 ⊢
      simp [PyData.canLay0, PyData.canLayAll0, h1]
      exact h2
  · apply decide_eq_true
    have : PyData.depthAll (l.map PyData.str) ≤ 3 := by
      clear hok
      induction l with
      | nil => simp [PyData.depthAll]
      | cons x l ih => simp [PyData.depthAll, PyData.depth] at ih ⊢; omega
    simp only [PyData.depth]
    omega
theorem ok_fewest (T : TX K mg) (n : Nat) : FOk P w K mg base (2 * n + 7) ("fewest", none) ["family"] (spFew K n) := by
  refine T.fn 29 (d := d_fewest) rfl rfl rfl sc_fewest (fun vs H Q E h => ?_) (fun _ _ _ _ _ _ us hl => match us, hl with | [_], _ => rfl) (fun cdv A outer s H vs Q E hr h => ?_)
  · obtain ⟨Γ, a, i, rfl, _⟩ := h; rfl
  · obtain ⟨Γ, a, i, rfl, G, g, hd, kk⟩ := h
    have nd := sc_fewest.nd
    refine ⟨_, pss_cons (ps_if (pt_cmpR (op_neD hr.units) (pe_mt0 (pv 0) T.cl_Family T.mt_Family_stuck (ok_Family_stuck T n) (hr.mono (by omega))) (pe_lst pa_nil) (by rfl)) (pss_one (ps_ret pe_non)) pss_nil) <|
      pss_cons (ps_set (i := 1) nd rfl (Or.inl rfl) pe_int) <|
      pss_cons (ps_while PassesOwn.never (pt_cmp (pc_isN (pe_cl (ok_covered T n) hr T.g_covered (pa_cons (pv 0) (pa_cons (pv 1) pa_nil))))) <| pss_one (ps_aug (i := 1) nd rfl (Or.inl rfl) pe_int ip_add)) <|
      pss_one (ps_ret (pv 1)), ?_⟩
    have F := G.fam a i g
    obtain ⟨dx, hob⟩ := F.ob
    have few := F.few
    have hok : ∀ y ∈ i.E, PyData.strOk y = true := fun y hy => good_ok (F.gd y hy)
    refine ⟨_, rfl, a, dx, _, rfl, hob, famF_no _ _ _ (by decide +kernel) (by decide +kernel) (by decide +kernel), ?_⟩
    refine ⟨Γ, a, i, rfl, G, g, hd, fun H1 p r1 hp hp1 => ?_⟩
    refine ⟨by rw [sizeLine_eq]; simp, fun q hq => ?_⟩
    have s2 : Same H1 (upd H1 q (.lst [])) := same_new hq
    have r2 := r1.same s2
    generalize hst : i.E.filter (fun x => decide (i.r [x] = 0)) = st at *
    have stE : ∀ x, x ∈ st ↔ x ∈ i.E ∧ i.r [x] = 0 := fun x => by
      rw [← hst, List.mem_filter]
      exact ⟨fun h => ⟨h.1, of_decide_eq_true h.2⟩, fun h => ⟨h.1, decide_eq_true h.2⟩⟩
    have only_r : ∀ x ∈ i.E, rho i.E i.r (only x) = i.r [x] := fun x hx => by
      have := rho_mem F.mat (single_sub hx)
      rw [← this]
      unfold rho
      congr 1
      refine List.filter_congr fun y _ => ?_
      unfold only mem
      simp
    refine ⟨.list (st.map PyData.str), .list [], .lst (SqL.of (s2 _ _ hp1)) (strs_dp st), .lst (SqL.of upd_same) .nil, strs_shaped st (fun x hx => hok x ((stE x).mp hx).1), strs_shaped [] (fun x hx => by cases hx), _, rfl, ?_⟩
    cases hst2 : st with
    | cons x st' =>
      refine ifT (by simp [PyData.eqv, PyData.eqvAll]) ?_
      have hx := (stE x).mp (by rw [hst2]; exact List.mem_cons_self)
      exact kk _ none r2 ⟨x, hx.1, by rw [only_r x hx.1]; exact hx.2⟩
    | nil =>
      refine ifF (by simp [PyData.eqv, PyData.eqvAll]) ?_
      have h0 : ∀ x ∈ i.E, rho i.E i.r (only x) ≠ 0 := fun x hx e => by
        rw [only_r x hx] at e
        have := (stE x).mpr ⟨hx, e⟩
        rw [hst2] at this; cases this
      have enough := cov_enough F.mat h0
      refine ⟨fun m σ H3 => ∃ k : Nat, m = i.E.length + 1 - k ∧ k ≤ i.E.length ∧ σ = [some (.ref a), some (.int k)] ∧ Rg Γ H H3 ∧ ∀ j, j < k → ¬ CovOK i.E i.r j, ⟨_, 0, rfl, Nat.zero_le _, rfl, r2, fun j hj => by omega⟩, ?_⟩
      rintro m σ H3 ⟨k, rfl, hk, rfl, r3, hn⟩
      refine ⟨_, rfl, _, rfl, Γ, a, i, k, rfl, G.step r3, g, hd, by omega, fun c H4 q r4 => ⟨_, rfl, ?_⟩, fun nc H4 r4 => ⟨_, rfl, ?_⟩⟩
      · refine ifF (decide_eq_false fun e => nomatch e) ⟨_, rfl, ?_⟩
        exact kk H4 (some k) (r3.trans r4) ⟨h0, c, hn⟩
      · refine ifT (decide_eq_true rfl) ⟨_, fun σ' H' q => q, _, rfl, _, _, rfl, rfl, ?_⟩
        have lt : k < i.E.length := by
          rcases Nat.lt_or_ge k i.E.length with q | q
          · exact q
          · have : k = i.E.length := by omega
            rw [this] at nc; exact absurd enough nc
        exact ⟨i.E.length + 1 - (k + 1), by omega, k + 1, rfl, lt, rfl, r3.trans r4, fun j hj => by
          rcases Nat.lt_or_ge j k with q | q
          · exact hn j q
          · have : j = k := by omega
            rw [this]; exact nc⟩
theorem ok_most (T : TX K mg) (n : Nat) : FOk P w K mg base (2 * n + 7) ("most", none) ["family"] (spMost K n) := by
  refine T.fn 30 (d := d_most) rfl rfl rfl sc_most (fun vs H Q E h => ?_) (fun _ _ _ _ _ _ us hl => match us, hl with | [_], _ => rfl) (fun cdv A outer s H vs Q E hr h => ?_)
  · obtain ⟨Γ, a, i, rfl, _⟩ := h; rfl
  · obtain ⟨Γ, a, i, rfl, G, g, hd, kk⟩ := h
    have nd := sc_most.nd
    obtain ⟨t2, hM⟩ := T.c_MOST_LOTS
    refine ⟨_, pss_cons (ps_if (pt_cmpR op_eq (pe_mt (pv 0) T.cl_Family T.mt_Family_rank_of (ok_rank T n) (hr.mono (by omega)) (pa_cons (pe_fld (pv 0) rfl) pa_nil)) pe_int (by rfl)) (pss_one (ps_ret pe_non)) pss_nil) <|
      pss_cons (ps_set (i := 1) nd rfl (Or.inl rfl) pe_int) <|
      pss_cons (ps_while PassesOwn.never (pw_and (pt_cmp (pc_lt (pv 1) (pe_glob (v := .int 24) (by rfl) hM ⟨_, rfl⟩))) (pw_and1 (pt_cmp (pc_notN (pe_cl (ok_packed T n) hr T.g_packed (pa_cons (pv 0) (pa_cons (pe_add (pv 1) pe_int) pa_nil))))))).pt <| pss_one (ps_aug (i := 1) nd rfl (Or.inl rfl) pe_int ip_add)) <|
      pss_one (ps_ret (pv 1)), ?_⟩
    have F := G.fam a i g
    obtain ⟨dx, hob⟩ := F.ob
    have few := F.few
    refine ⟨_, rfl, a, dx, _, rfl, hob, famF_no _ _ _ (by decide +kernel) (by decide +kernel) (by decide +kernel), _, rfl, a, _, dx, _, _, rfl, hob, T.cl_Family, T.na_Family_names, famF_names _ _ _, ?_⟩
    refine ⟨Γ, a, i.nt, i, i.E, rfl, G, g, hd, F.nm, List.Sublist.refl _, fun H1 r1 => ⟨rfl, _, rfl, ?_⟩⟩
    rw [show decide (V.int ((i.r i.E : Nat) : Int) = V.int 0) = decide (i.r i.E = 0) from decInt _ 0]
    by_cases z : i.r i.E = 0
    · refine ifT (decide_eq_true z) (kk H1 none r1 ?_)
      show rho i.E i.r full = 0
      rw [rho_full]; exact z
    · refine ifF (decide_eq_false z) ?_
      have z' : rho i.E i.r full ≠ 0 := by rw [rho_full]; exact z
      refine ⟨fun m σ H3 => ∃ k : Nat, m = 24 - k ∧ 1 ≤ k ∧ σ = [some (.ref a), some (.int k)] ∧ Rg Γ H H3 ∧ PackOK i.E i.r k, ⟨_, 1, rfl, Nat.le_refl _, rfl, r1, pack_one F.mat⟩, ?_⟩
      rintro m σ H3 ⟨k, rfl, hk, rfl, r3, pk⟩
      have b := pack_bound F.mat z' pk
      refine ⟨_, rfl, (k : Int), 24, rfl, rfl, _, rfl, ifT (decide_eq_true (by omega)) ?_⟩
      refine ⟨_, rfl, _, rfl, (k : Int), 1, rfl, rfl, Γ, a, i, k + 1, rfl, G.step r3, g, hd, by omega, fun c H4 q r4 => ⟨_, rfl, ?_⟩, fun nc H4 r4 => ⟨_, rfl, ?_⟩⟩
      · refine ifT (by rw [decide_eq_false (fun q => nomatch q)]; rfl) ⟨_, fun σ' H' q => q, _, rfl, _, _, rfl, rfl, ?_⟩
        have b2 := pack_bound F.mat z' c
        exact ⟨24 - (k + 1), by omega, k + 1, rfl, by omega, rfl, r3.trans r4, c⟩
      · refine ifF (by rw [decide_eq_true rfl]; rfl) ⟨_, rfl, ?_⟩
        exact kk H4 (some k) (r3.trans r4) ⟨z', pk, nc⟩
end
end BF
set_option Elab.async false
set_option linter.all false
set_option maxRecDepth 100000
set_option maxHeartbeats 4000000
/-! free_on, cut_short, joined. -/
namespace BF
open PySem PySem.Spec PyProof.Rows L2
theorem fam_new {K : PySem.W.Frag} {Γ : Gh} {H H1 H' : Hp} {x dx s nt d : Addr} {E : List Str} {r : List Str → Nat} {dep : Nat} (s1 : Same H H1) (h1 : H1 x = none) (h2 : H1 dx = none) (ex : Exc x (upd (upd H1 dx (.own x)) x (.ins (He.ga K "Family") dx [])) H') (ho : H' x = some (.ins (He.ga K "Family") dx (famF nt s d)))
    (hn : H' nt = some (.tup (txs E))) (hd : H' d = some (.dT [])) (hd0 : (upd (upd H1 dx (.own x)) x (.ins (He.ga K "Family") dx [])) d = none) (src : Same H1 H' → SrcOk K Γ H' ⟨nt, s, d, E, r, dep⟩) (mat : Mat E r) (srt : sortedS E = true) (few : E.length ≤ 14) (gd : ∀ x ∈ E, good x = true) : NewFam K Γ H H' x ⟨nt, s, d, E, r, dep⟩ := by
  have s2 : Same H1 H' := ex.made h1 h2
  exact ⟨s1.trans s2, s1.free h1, s1.free (made_free hd0), ⟨⟨dx, ho⟩, hn, ⟨[], hd, ⟨List.nodup_nil, fun p hp => by cases hp⟩⟩, src s2, mat, srt, few, gd⟩⟩
def spFreeOn (K : PySem.W.Frag) : Sp := fun vs H Q _ => ∃ (Γ : Gh) (a : Addr) (xs : List Str), vs = [.ref a] ∧ SqL K H a (txs xs) ∧ xs.length ≤ 7 ∧ xs.Nodup ∧ (∀ x ∈ xs, good x = true) ∧
  ∀ H' p (i : FInfo), NewFam K Γ H H' p i → i.E.Perm xs → i.r = List.length → i.dep = 0 → Q (.ref p) H'
theorem sc_free_on : FnScope ["things"] ["things"] (defScope s_free_on) := ⟨rfl, rfl, rfl, by decide +kernel, rfl, by decide +kernel, by decide +kernel⟩
def spCut (K : PySem.W.Frag) : Sp := fun vs H Q _ => ∃ (Γ : Gh) (a : Addr) (i : FInfo) (k : Nat), vs = [.ref a, .int k] ∧ Good K Γ H ∧ Γ a = some i ∧
  ∀ H' p (j : FInfo), NewFam K Γ H H' p j → j.E = i.E → j.r = rCut k i.r → j.dep = i.dep + 1 → Q (.ref p) H'
theorem sc_cut_short : FnScope ["family", "k"] ["family", "k"] (defScope s_cut_short) := ⟨rfl, rfl, rfl, by decide +kernel, rfl, by decide +kernel, by decide +kernel⟩
def spJoin (K : PySem.W.Frag) : Sp := fun vs H Q _ => ∃ (Γ : Gh) (a b : Addr) (i j : FInfo), vs = [.ref a, .ref b] ∧ Good K Γ H ∧ Γ a = some i ∧ Γ b = some j ∧ (∀ x ∈ i.E, x ∉ j.E) ∧ i.E.length ≤ 7 ∧ j.E.length ≤ 7 ∧
  ∀ H' p (t : FInfo), NewFam K Γ H H' p t → Side t.E i.E j.E → t.r = rSum i.E j.E i.r j.r → t.dep ≤ max i.dep j.dep + 1 → Q (.ref p) H'
theorem sc_joined : FnScope ["one", "other", "thing"] ["one", "other"] (defScope s_joined) := ⟨rfl, rfl, rfl, by decide +kernel, rfl, by decide +kernel, by decide +kernel⟩
section
variable {P : Program} {w : World} {K : PySem.W.Frag} {mg : Str → Option Value} {base : Heap}
theorem ok_free_on (T : TX K mg) : FOk P w K mg base 3 ("free_on", none) ["things"] (spFreeOn K) := by
  refine T.fn 47 (d := d_free_on) rfl rfl rfl sc_free_on (fun vs H Q E h => ?_) (fun _ _ _ _ _ _ us hl => match us, hl with | [_], _ => rfl) (fun cdv A outer s H vs Q E hr h => ?_)
  · obtain ⟨Γ, a, xs, rfl, _⟩ := h; rfl
  · obtain ⟨Γ, a, xs, rfl, hx, h7, ndx, hg, kk⟩ := h
    obtain ⟨t2, hM⟩ := T.c_MOST_THINGS
    have ez := T.z
    unfold exK at ez
    rw [Bool.and_eq_true] at ez
    refine ⟨_, pss_one (ps_ret (pe_mk T.mk_Family (ok_Family_init T) hr T.g_Family (pa_cons (pe_cl (ok_need_things T) hr T.g_need_things (pa_cons (pv 0) (pa_cons (pe_glob (v := .int 24) (by rfl) hM ⟨_, rfl⟩) pa_nil))) (pa_cons (pe_mkO T.kp_AllFree ez.1 (of_decide_eq_true ez.2) T.g_AllFree) pa_nil)))), ?_⟩
    refine ⟨_, rfl, a, xs, 24, rfl, hx, by omega, by omega, ndx, hg, fun ys H1 nl s1 hnl pm srt hnl1 => ?_⟩
    intro sx sdx hsx hsdx hsne
    have s2 : Same H1 (upd (upd H1 sdx (.own sx)) sx (.ins (He.ga K "AllFree") sdx [])) := same_put (same_new hsdx) hsx
    have hs2 : (upd (upd H1 sdx (.own sx)) sx (.ins (He.ga K "AllFree") sdx [])) sx = some (.ins (He.ga K "AllFree") sdx []) := upd_same
    generalize upd (upd H1 sdx (.own sx)) sx (.ins (He.ga K "AllFree") sdx []) = H2 at *
    intro x dx hx2 hdx2 hne
    have s12 := s1.trans s2
    have hnl2 := s2 _ _ hnl1
    refine ⟨x, dx, nl, sx, ys, rfl, upd_same, .inl (by rw [upd_ne (ne_of_none hnl2 hx2), upd_ne (ne_of_none hnl2 hdx2)]; exact hnl2), fun H3 nt d ex ho hnt hd hd0 => ⟨rfl, ?_⟩⟩
    refine kk H3 x ⟨nt, sx, d, ys, List.length, 0⟩ (fam_new s12 hx2 hdx2 ex ho hnt hd hd0 (fun s3 => .free sdx (s3 _ _ hs2) fun _ _ => rfl) (Mat.free (pm.nodup_iff.mpr ndx)) srt (by rw [pm.length_eq]; omega) fun y hy => hg y (pm.mem_iff.mp hy)) pm rfl rfl
theorem ok_cut_short (T : TX K mg) : FOk P w K mg base 3 ("cut_short", none) ["family", "k"] (spCut K) := by
  refine T.fn 45 (d := d_cut_short) rfl rfl rfl sc_cut_short (fun vs H Q E h => ?_) (fun _ _ _ _ _ _ us hl => match us, hl with | [_, _], _ => rfl) (fun cdv A outer s H vs Q E hr h => ?_)
  · obtain ⟨Γ, a, i, k, rfl, _⟩ := h; rfl
  · obtain ⟨Γ, a, i, k, rfl, G, g, kk⟩ := h
    refine ⟨_, pss_cons (ps_expr (pe_cl (ok_need_number T) hr T.g_need_number (pa_cons (pv 1) pa_nil))) <|
      pss_one (ps_ret (pe_mk T.mk_Family (ok_Family_init T) hr T.g_Family (pa_cons (pe_fld (pv 0) rfl) (pa_cons (pe_mk T.mk_Short (ok_Short_init T) hr T.g_Short (pa_cons (pv 0) (pa_cons (pv 1) pa_nil))) pa_nil)))), ?_⟩
    have F := G.fam a i g
    obtain ⟨dxa, hob⟩ := F.ob
    refine ⟨_, rfl, (k : Int), rfl, by omega, ?_⟩
    refine ⟨_, rfl, a, _, dxa, _, _, rfl, hob, T.cl_Family, T.na_Family_names, famF_names _ _ _, _, rfl, _, rfl, fun sx sdx hsx hsdx hsne => ?_⟩
    refine ⟨sx, sdx, a, k, rfl, upd_same, fun H2 ex2 ho2 => ⟨rfl, ?_⟩⟩
    have s2 : Same H H2 := ex2.made hsx hsdx
    intro x dx hx2 hdx2 hne
    have hnl2 := s2 _ _ F.nm
    refine ⟨x, dx, i.nt, sx, i.E, rfl, upd_same, .inr (by rw [upd_ne (ne_of_none hnl2 hx2), upd_ne (ne_of_none hnl2 hdx2)]; exact hnl2), fun H3 nt d ex ho hnt hd hd0 => ⟨rfl, ?_⟩⟩
    exact kk H3 x ⟨nt, sx, d, i.E, rCut k i.r, i.dep + 1⟩ (fam_new s2 hx2 hdx2 ex ho hnt hd hd0 (fun s3 => .short sdx a k i (s3 _ _ ho2) g (Nat.lt_succ_self _) rfl fun _ _ => rfl) (F.mat.cut k) F.srt F.few F.gd) rfl rfl rfl
theorem ok_joined (T : TX K mg) : FOk P w K mg base 3 ("joined", none) ["one", "other"] (spJoin K) := by
  refine T.fn 44 (d := d_joined) rfl rfl rfl sc_joined (fun vs H Q E h => ?_) (fun _ _ _ _ _ _ us hl => match us, hl with | [_, _], _ => rfl) (fun cdv A outer s H vs Q E hr h => ?_)
  · obtain ⟨Γ, a, b, i, j, rfl, _⟩ := h; rfl
  · obtain ⟨Γ, a, b, i, j, rfl, G, ga, gb, dis, l1, l2, kk⟩ := h
    have nd := sc_joined.nd
    obtain ⟨t2, hM⟩ := T.c_MOST_THINGS
    obtain ⟨fd, FI, bI, _⟩ := (ok_Family_contains (P := P) (w := w) (base := base) T).ex
    obtain ⟨fd2, FL, bL, _⟩ := (ok_Family_len (P := P) (w := w) (base := base) T).ex
    refine ⟨_, pss_cons (ps_for PassesOwn.never rfl (pi_tup (pe_fld (pv 0) rfl)) (pg_name (i := 2) nd rfl (Or.inl rfl)) <| pss_one <| ps_if (pt_cmpR (op_inOwn T.mt_Family_contains FI (hr.mono (by omega)) bI) (pv 2) (pv 1) (by rfl)) pss_never pss_nil) <|
      pss_cons (ps_if (pt_cmp (pc_gt (pe_add (pe_callB (call_lenOwn T.mt_Family_len FL hr bL) (by rfl) T.f_len (by decide +kernel) (pa_cons (pv 0) pa_nil)) (pe_callB (call_lenOwn T.mt_Family_len FL hr bL) (by rfl) T.f_len (by decide +kernel) (pa_cons (pv 1) pa_nil))) (pe_glob (v := .int 24) (by rfl) hM ⟨_, rfl⟩))) pss_never pss_nil) <|
      pss_one (ps_ret (pe_mk T.mk_Family (ok_Family_init T) hr T.g_Family (pa_cons (pe_callB cr_sortedS (by rfl) T.f_sorted (by decide +kernel) (pa_cons (pe_lst (StX.pa_star (pe_fld (pv 0) rfl) (StX.pa_star (pe_fld (pv 1) rfl) pa_nil))) pa_nil)) (pa_cons (pe_mk T.mk_Joined (ok_Joined_init T) hr T.g_Joined (pa_cons (pv 0) (pa_cons (pv 1) pa_nil))) pa_nil)))), ?_⟩
    have F1 := G.fam a i ga
    have F2 := G.fam b j gb
    obtain ⟨dxa, hoa⟩ := F1.ob
    obtain ⟨dxb, hob⟩ := F2.ob
    refine ⟨_, rfl, a, _, dxa, _, _, rfl, hoa, T.cl_Family, T.na_Family_names, famF_names _ _ _, i.nt, rfl, ⟨_, SqT.of F1.nm⟩, ?_⟩
    refine forJ (R := Same) (H0 := H) (src_tup fun H' r => SqT.of (r _ _ F1.nm)) (fun m σ H1 => (∃ o, σ = [some (.ref a), some (.ref b), o]) ∧ H1 = H) (fun m σ H1 p => by rw [p.2]; exact Same.refl _) ⟨⟨none, rfl⟩, rfl⟩ ?_ ?_
    · rintro σ H1 ⟨⟨o, rfl⟩, rfl⟩
      refine ⟨_, rfl, a, dxa, _, rfl, hoa, a, _, _, _, i.E, rfl, ⟨⟨dxa, hoa⟩, F1.nm⟩, _, rfl, by omega, by omega, _, rfl, b, dxb, _, rfl, hob, b, _, _, _, j.E, rfl, ⟨⟨dxb, hob⟩, F2.nm⟩, _, rfl, by omega, by omega, _, _, rfl, rfl, _, _, rfl, rfl, _, rfl, ?_⟩
      refine ifF (decide_eq_false (by omega)) ?_
      refine ⟨_, rfl, a, _, dxa, _, _, rfl, hoa, T.cl_Family, T.na_Family_names, famF_names _ _ _, _, _, rfl, .inl (SqT.of F1.nm), _, rfl, b, _, dxb, _, _, rfl, hob, T.cl_Family, T.na_Family_names, famF_names _ _ _, _, _, rfl, .inl (SqT.of F2.nm), by rw [sizeLine_eq]; simp; omega, fun p hp => ?_⟩
      have e : txs i.E ++ (txs j.E ++ []) = txs (i.E ++ j.E) := by rw [List.append_nil, txs_app]
      rw [e]
      refine ⟨p, i.E ++ j.E, rfl, SqL.of upd_same, by simp; omega, fun ys nl pm srt hnl => ?_⟩
      have s1 : Same H1 (upd H1 p (.lst (txs (i.E ++ j.E)))) := same_new hp
      have s2 : Same H1 (upd (upd H1 p (.lst (txs (i.E ++ j.E)))) nl (.lst (txs ys))) := same_put s1 (s1.free hnl)
      have hnl2 : (upd (upd H1 p (.lst (txs (i.E ++ j.E)))) nl (.lst (txs ys))) nl = some (.lst (txs ys)) := upd_same
      generalize upd (upd H1 p (.lst (txs (i.E ++ j.E)))) nl (.lst (txs ys)) = H2 at *
      refine ⟨_, rfl, _, rfl, fun sx sdx hsx hsdx hsne => ?_⟩
      refine ⟨sx, sdx, a, b, rfl, upd_same, fun H3 ex3 ho3 => ⟨rfl, ?_⟩⟩
      have s3 : Same H2 H3 := ex3.made hsx hsdx
      intro x dx hx3 hdx3 hne
      have hnl3 := s3 _ _ hnl2
      refine ⟨x, dx, nl, sx, ys, rfl, upd_same, .inl (by rw [upd_ne (ne_of_none hnl3 hx3), upd_ne (ne_of_none hnl3 hdx3)]; exact hnl3), fun H4 nt d ex ho hnt hd hd0 => ⟨rfl, ?_⟩⟩
      have ndij : (i.E ++ j.E).Nodup := List.nodup_append.mpr ⟨F1.mat.nd, F2.mat.nd, fun x hx y hy e => dis x hx (e ▸ hy)⟩
      have ndy : ys.Nodup := pm.nodup_iff.mpr ndij
      have ym : ∀ z, z ∈ ys ↔ z ∈ i.E ∨ z ∈ j.E := fun z => by rw [pm.mem_iff, List.mem_append]
      have side : Side ys i.E j.E := by
        refine ⟨ndy, ?_, ?_, fun z hz => ?_⟩
        · refine sorted_eq ?_ (sorted_sub List.filter_sublist srt) F1.srt
          exact (List.perm_ext_iff_of_nodup (ndy.filter _) F1.mat.nd).mpr fun z => by
            rw [List.mem_filter, mem_t, ym]
            exact ⟨fun h => h.2, fun h => ⟨.inl h, h⟩⟩
        · refine sorted_eq ?_ (sorted_sub List.filter_sublist srt) F2.srt
          exact (List.perm_ext_iff_of_nodup (ndy.filter _) F2.mat.nd).mpr fun z => by
            rw [List.mem_filter, mem_t, ym]
            exact ⟨fun h => h.2, fun h => ⟨.inr h, h⟩⟩
        · rcases (ym z).mp hz with h | h
          · rw [mem_t.mpr h, mem_f.mpr (dis z h)]; rfl
          · rw [mem_t.mpr h, mem_f.mpr (fun q => dis z q h)]; rfl
      refine kk H4 x ⟨nt, sx, d, ys, rSum i.E j.E i.r j.r, max i.dep j.dep + 1⟩ (fam_new (s2.trans s3) hx3 hdx3 ex ho hnt hd hd0 (fun s5 => .joined sdx a b i j (s5 _ _ ho3) ga gb (by show i.dep < max i.dep j.dep + 1; omega) (by show j.dep < max i.dep j.dep + 1; omega) side fun _ _ => rfl) (side.mat F1.mat F2.mat) srt (by rw [pm.length_eq]; simp; omega) fun y hy => ?_) side rfl (Nat.le_refl _)
      rcases (ym y).mp hy with h | h
      · exact F1.gd y h
      · exact F2.gd y h
    · rintro m x σ H1 hm ⟨⟨o, rfl⟩, rfl⟩ N hN
      obtain ⟨z, hz, rfl⟩ := txs_at hm
      have zn : z ∉ j.E := dis z (List.mem_of_getElem? hz)
      refine ⟨_, rfl, _, rfl, b, dxb, _, rfl, hob, b, _, _, _, j.E, z, rfl, ⟨⟨dxb, hob⟩, F2.nm⟩, ⟨_, rfl, _, rfl, ?_⟩⟩
      exact ifF (mem_f.mpr zn) (hN _ _ ⟨⟨_, rfl⟩, rfl⟩)
end
end BF
set_option Elab.async false
set_option linter.all false
set_option maxRecDepth 100000
set_option maxHeartbeats 4000000
/-! need_names, named. -/
namespace BF
open PySem PySem.Spec PyProof.Rows L2
def spNeedNames (K : PySem.W.Frag) : Sp := fun vs H Q _ => ∃ (t d : Addr) (E : List Str) (f : Str → Str), vs = [.ref t, .ref d] ∧ SqT K H t (txs E) ∧ H d = some (.dK (dictF E fun x => .str (f x))) ∧ E.length ≤ 14 ∧ (∀ x ∈ E, ∀ y ∈ E, f x = f y → x = y) ∧ (∀ x ∈ E, good (f x) = true) ∧
  ∀ H', Same H H' → Q .non H'
theorem sc_need_names : FnScope ["things", "names", "thing", "other"] ["things", "names"] (defScope s_need_names) := ⟨rfl, rfl, rfl, by decide +kernel, rfl, by decide +kernel, by decide +kernel⟩
def spNamed (K : PySem.W.Frag) : Sp := fun vs H Q _ => ∃ (Γ : Gh) (a d : Addr) (i : FInfo) (f : Str → Str), vs = [.ref a, .ref d] ∧ Good K Γ H ∧ Γ a = some i ∧ H d = some (.dK (dictF i.E fun x => .str (f x))) ∧ (∀ x ∈ i.E, ∀ y ∈ i.E, f x = f y → x = y) ∧ (∀ x ∈ i.E, good (f x) = true) ∧
  ∀ H' p (j : FInfo), NewFam K Γ H H' p j → j.E.Perm (i.E.map f) → j.r = rRen i.E i.r f → j.dep = i.dep + 1 → Q (.ref p) H'
theorem sc_named : FnScope ["family", "names", "olds", "thing"] ["family", "names"] (defScope s_named) := ⟨rfl, rfl, rfl, by decide +kernel, rfl, by decide +kernel, by decide +kernel⟩
section
variable {P : Program} {w : World} {K : PySem.W.Frag} {mg : Str → Option Value} {base : Heap}
theorem ok_need_names (T : TX K mg) : FOk P w K mg base 2 ("need_names", none) ["things", "names"] (spNeedNames K) := by
  refine T.fn 4 (d := d_need_names) rfl rfl rfl sc_need_names (fun vs H Q E h => ?_) (fun _ _ _ _ _ _ us hl => match us, hl with | [_, _], _ => rfl) (fun cdv A outer s H vs Q E hr h => ?_)
  · obtain ⟨t, d, E, f, rfl, _⟩ := h; rfl
  · obtain ⟨t, d, E, f, rfl, ht, hd, hE, inj, gd, kk⟩ := h
    have nd := sc_need_names.nd
    have hu := hu_of hr
    refine ⟨_, pss_one (ps_for PassesOwn.never rfl (pi_list (pe_callB cr_sortedS (by rfl) T.f_sorted (by decide +kernel) (pa_cons (pe_lst (StX.pa_star (pv 0) (pa_starD rfl (pv 1) pa_nil))) pa_nil))) (pg_name (i := 2) nd rfl (Or.inr rfl)) <|
      pss_cons (ps_if (pw_or (pt_cmpR op_notIn_seq (pv 2) (pv 0) (by rfl)) (pw_or (pt_cmp (pc_dnotin hu (pv 2) (pv 1))) (pw_or1 (pt_not (pt_val (pe_cl (ok_is_name T) hr T.g_is_name (pa_cons (pe_dget hu (pv 1) (pv 2) (fun _ _ => rfl)) pa_nil))))))).pt pss_never pss_nil) <|
      pss_one <| ps_if (pt_val (pe_callB (cr_any rfl) (by rfl) T.f_any (by decide +kernel) (pa_cons
        (pe_lc (own := [("other", 3)]) (g := gName 3) rfl nd (pi_tup (pv 0)) (blkOk_by (N := ["things", "names", "thing", "other"]) (sc := defScope s_need_names) (by decide +kernel)) (fun _ _ _ _ _ => pg_name (i := 3) nd rfl (Or.inl rfl))
          (fun _ _ _ _ _ => pts_one (pw_and (pt_cmpR op_lt_str (pv 3) (pv 2) (by rfl)) (pw_and1 (pt_cmp (pc_din hu (pv 3) (pv 1))))).pt) (fun _ _ _ _ _ => pe_cmpR op_eq (pe_dget hu (pv 1) (pv 3) (fun _ _ => rfl)) (pe_dget hu (pv 1) (pv 2) (fun _ _ => rfl)) (by rfl))) pa_nil))) pss_never pss_nil), ?_⟩
    have keys : (dictF E fun x => V.str (f x)).map (·.1) = E.map Sum.inr := by rw [List.map_map]; rfl
    refine ⟨_, rfl, _, _, rfl, .inl ht, _, rfl, d, _, E, rfl, .inl hd, keys, by rw [sizeLine_eq]; simp; omega, fun p hp => ?_⟩
    have e : txs E ++ (E.map V.str ++ []) = txs (E ++ E) := by rw [List.append_nil]; exact txs_app E E
    rw [e]
    refine ⟨p, E ++ E, rfl, SqL.of upd_same, by simp; omega, fun zs q pm srt hq => ⟨q, rfl, ⟨_, SqL.of upd_same⟩, ?_⟩⟩
    have s1 : Same H (upd H p (.lst (txs (E ++ E)))) := same_new hp
    have s2 : Same H (upd (upd H p (.lst (txs (E ++ E)))) q (.lst (txs zs))) := same_put s1 (s1.free hq)
    have hq2 : (upd (upd H p (.lst (txs (E ++ E)))) q (.lst (txs zs))) q = some (.lst (txs zs)) := upd_same
    generalize upd (upd H p (.lst (txs (E ++ E)))) q (.lst (txs zs)) = H2 at *
    have zE : ∀ z ∈ zs, z ∈ E := fun z hz => by
      have := pm.mem_iff.mp hz
      rcases List.mem_append.mp this with h | h <;> exact h
    refine forJ (R := Same) (H0 := H2) (src_list fun H' r => SqL.of (r _ _ hq2)) (fun m σ H3 => (∃ o2 o3, σ = [some (.ref t), some (.ref d), o2, o3]) ∧ Same H2 H3) (fun m σ H3 p => p.2) ⟨⟨none, none, rfl⟩, Same.refl _⟩ ?_ ?_
    · rintro σ H3 ⟨⟨o2, o3, rfl⟩, s3⟩
      exact kk H3 (s2.trans s3)
    · rintro m x σ H3 hm ⟨⟨o2, o3, rfl⟩, s3⟩ N hN
      obtain ⟨z, hz, rfl⟩ := txs_at hm
      have zin := zE z (List.mem_of_getElem? hz)
      have s03 := s2.trans s3
      have g1 := DGet.k (k := .inr z) (s03 _ _ hd)
      rw [dictF_val zin] at g1
      refine ⟨_, rfl, _, rfl, t, _, rfl, .inr (same_seqT s03 ht), rfl, flat_txs _, _, rfl, ?_⟩
      rw [if_pos rfl, inV_txs, mem_t.mpr zin]
      refine iteF ⟨_, rfl, _, rfl, d, _, rfl, g1, _, rfl, iteF ?_⟩
      refine ⟨_, rfl, _, rfl, d, _, rfl, g1, f z, rfl, gd z zin, fun H4 s4 => ⟨_, rfl, iteF ?_⟩⟩
      have s04 := s03.trans s4
      have g4 := DGet.k (k := .inr z) (s04 _ _ hd)
      rw [dictF_val zin] at g4
      refine ⟨_, rfl, t, rfl, ⟨_, same_seqT s04 ht⟩, fun D hD => ?_⟩
      refine lcV (H0 := H4) (same_frm H4) (src_tup fun H' r => same_seqT (s04.trans r) ht) (fun j => decide ((E.getD j e0).cps.toList < z.cps.toList)) (fun _ => .bl false) (by simp; omega) (fun x => rfl) hD (same_new hD) ?_ ?_ ?_
      · intro j y H5 Qb hj r q5
        obtain ⟨o, ho, rfl⟩ := txs_at hj
        have g5 := DGet.k (k := .inr o) ((s04.trans r) _ _ hd)
        rw [dictF_val (List.mem_of_getElem? ho)] at g5
        refine ⟨_, rfl, _, rfl, o, z, rfl, rfl, _, rfl, ?_⟩
        by_cases c : o.cps.toList < z.cps.toList
        · refine ifT (decide_eq_true c) ⟨_, rfl, _, rfl, d, _, rfl, g5, _, rfl, ?_⟩
          have := q5 H5 (Same.refl _)
          rw [getD_at (d := e0) ho, decide_eq_true c] at this
          exact this
        · refine ifF (decide_eq_false c) ?_
          have := q5 H5 (Same.refl _)
          rw [getD_at (d := e0) ho, decide_eq_false c] at this
          exact this
      · intro j y H5 Qv hj fj r q5
        obtain ⟨o, ho, rfl⟩ := txs_at hj
        have oE := List.mem_of_getElem? ho
        rw [getD_at (d := e0) ho] at fj
        have c := of_decide_eq_true fj
        have ne : f o ≠ f z := fun e => by
          have := inj o oE z zin e
          rw [this] at c
          exact List.lt_irrefl _ c
        have g5 := DGet.k (k := .inr o) ((s04.trans r) _ _ hd)
        rw [dictF_val oE] at g5
        have g6 := DGet.k (k := .inr z) ((s04.trans r) _ _ hd)
        rw [dictF_val zin] at g6
        refine ⟨_, rfl, _, rfl, d, _, rfl, g5, _, rfl, _, rfl, d, _, rfl, g6, rfl, ?_⟩
        rw [decide_eq_false (fun q => ne (by injection q))]
        exact q5 H5 (Same.refl _)
      · intro H5 r5 hd5
        have eb : (picks (txs E).length fun j => decide ((E.getD j e0).cps.toList < z.cps.toList)).map (fun _ => V.bl false) = ((picks (txs E).length fun j => decide ((E.getD j e0).cps.toList < z.cps.toList)).map fun _ => false).map V.bl := by rw [List.map_map]; rfl
        rw [eb] at hd5
        refine ⟨D, _, rfl, SqL.of hd5, _, rfl, ?_⟩
        refine ifF ?_ (hN _ _ ⟨⟨_, _, rfl⟩, s3.trans (s4.trans r5)⟩)
        rw [List.any_map, List.any_eq_false]
        intro _ _ h
        cases h
theorem ok_named (T : TX K mg) : FOk P w K mg base 3 ("named", none) ["family", "names"] (spNamed K) := by
  refine T.fn 46 (d := d_named) rfl rfl rfl sc_named (fun vs H Q E h => ?_) (fun _ _ _ _ _ _ us hl => match us, hl with | [_, _], _ => rfl) (fun cdv A outer s H vs Q E hr h => ?_)
  · obtain ⟨Γ, a, d, i, f, rfl, _⟩ := h; rfl
  · obtain ⟨Γ, a, d, i, f, rfl, G, g, hd, inj, gd, kk⟩ := h
    have nd := sc_named.nd
    have hu := hu_of hr
    refine ⟨_, pss_cons (ps_expr (pe_cl (ok_need_names T) hr T.g_need_names (pa_cons (pe_fld (pv 0) rfl) (pa_cons (pv 1) pa_nil)))) <|
      pss_cons (ps_setDc (i := 2) (own := [("thing", 3)]) (g := gName 3) rfl nd rfl rfl (sw_trueD rfl rfl rfl rfl) (pi_tup (pe_fld (pv 0) rfl)) (blkOk_by (N := ["family", "names", "olds", "thing"]) (sc := defScope s_named) (by decide +kernel)) (fun _ _ _ _ _ => pg_name (i := 3) nd rfl (Or.inl rfl))
        (fun _ _ _ _ _ => pts_nil) (fun _ _ _ _ _ => pe_dget hu (pv 1) (pv 3) (fun _ _ => rfl)) (fun _ _ _ _ _ => pv 3)) <|
      pss_one (ps_ret (pe_mk T.mk_Family (ok_Family_init T) hr T.g_Family (pa_cons (pe_callB cr_sortedS (by rfl) T.f_sorted (by decide +kernel) (pa_cons (pe_callTy (call_listD rfl) (by rfl) T.f_list (by decide +kernel) (pa_cons (pv 2) pa_nil)) pa_nil)) (pa_cons (pe_mk T.mk_Renamed (ok_Renamed_init T) hr T.g_Renamed (pa_cons (pv 0) (pa_cons (pv 2) pa_nil))) pa_nil)))), ?_⟩
    have F := G.fam a i g
    obtain ⟨dxa, hob⟩ := F.ob
    have few := F.few
    have ndE := F.mat.nd
    refine ⟨_, rfl, a, _, dxa, _, _, rfl, hob, T.cl_Family, T.na_Family_names, famF_names _ _ _, _, rfl, i.nt, d, i.E, f, rfl, SqT.of F.nm, hd, few, inj, gd, fun H1 s1 => ?_⟩
    refine ⟨_, rfl, a, _, dxa, _, _, rfl, s1 _ _ hob, T.cl_Family, T.na_Family_names, famF_names _ _ _, i.nt, rfl, ⟨_, SqT.of (s1 _ _ F.nm)⟩, fun D hD => ?_⟩
    refine dcK (H0 := H1) (src_tup fun H' r => SqT.of (r _ _ (s1 _ _ F.nm))) (fun _ => true) (fun m => .inr (f (i.E.getD m e0))) (fun m v _ => v = .str (i.E.getD m e0)) (by simp; omega) (fun _ _ _ _ h _ => h) (fun _ _ _ _ _ h _ => h) (fun m j hjm hm _ _ q => ?_) (fun x => rfl) hD (same_new hD) ?_ ?_ ?_
    · have hm' : m < i.E.length := by simpa using hm
      have e := Sum.inr.inj q
      rw [List.getD_eq_getElem?_getD, List.getD_eq_getElem?_getD, List.getElem?_eq_getElem hm', List.getElem?_eq_getElem (by omega)] at e
      have := (List.getElem_inj ndE).mp (inj _ (List.getElem_mem _) _ (List.getElem_mem _) e)
      omega
    · intro m x H2 Qb hi r q
      exact q H2 (Same.refl _)
    · intro m x H2 Qv hi _ r q
      obtain ⟨z, hz, rfl⟩ := txs_at hi
      have g1 := DGet.k (k := .inr z) (r _ _ (s1 _ _ hd))
      rw [dictF_val (List.mem_of_getElem? hz)] at g1
      refine ⟨_, rfl, _, rfl, d, _, rfl, g1, _, rfl, ?_⟩
      have := q (.str z) H2 (Same.refl _) (by rw [getD_at (d := e0) hz])
      rw [getD_at (d := e0) hz] at this
      exact this
    · intro H2 kvs s2 hd2 pk
      have ek : kvs = i.E.map fun x => ((Sum.inr (f x) : Key), V.str x) := by
        have := Paired.fn (Paired.imp (G := fun m p => p = ((Sum.inr (f (i.E.getD m e0)) : Key), V.str (i.E.getD m e0))) (fun m p h => Prod.ext h.1 h.2) pk)
        rw [this, List.length_map, picks_all]
        exact map_range' (fun x : Str => ((Sum.inr (f x) : Key), V.str x)) e0 i.E
      subst ek
      have s02 := s1.trans s2
      refine ⟨_, rfl, D, _, rfl, .inl hd2, fun p hp => ?_⟩
      have e : ((i.E.map fun x => ((Sum.inr (f x) : Key), V.str x)).map fun kv => kV kv.1) = txs (i.E.map f) := by
        show _ = List.map V.str (List.map f i.E)
        rw [List.map_map, List.map_map]; rfl
      rw [e]
      refine ⟨p, i.E.map f, rfl, SqL.of upd_same, by rw [List.length_map]; omega, fun ys nl pm srt hnl => ?_⟩
      have s3 : Same H2 (upd H2 p (.lst (txs (i.E.map f)))) := same_new hp
      have s4 : Same H2 (upd (upd H2 p (.lst (txs (i.E.map f)))) nl (.lst (txs ys))) := same_put s3 (s3.free hnl)
      have hnl4 : (upd (upd H2 p (.lst (txs (i.E.map f)))) nl (.lst (txs ys))) nl = some (.lst (txs ys)) := upd_same
      generalize upd (upd H2 p (.lst (txs (i.E.map f)))) nl (.lst (txs ys)) = H4 at *
      refine ⟨_, rfl, _, rfl, fun sx sdx hsx hsdx hsne => ?_⟩
      refine ⟨sx, sdx, a, D, rfl, upd_same, fun H5 ex5 ho5 => ⟨rfl, ?_⟩⟩
      have s5 : Same H4 H5 := ex5.made hsx hsdx
      intro x dx hx5 hdx5 hne
      have hnl5 := s5 _ _ hnl4
      have ndm : (i.E.map f).Nodup := nd_map f i.E ndE inj
      refine ⟨x, dx, nl, sx, ys, rfl, upd_same, .inl (by rw [upd_ne (ne_of_none hnl5 hx5), upd_ne (ne_of_none hnl5 hdx5)]; exact hnl5), fun H6 nt dd ex ho hnt hdd hd0 => ⟨rfl, ?_⟩⟩
      refine kk H6 x ⟨nt, sx, dd, ys, rRen i.E i.r f, i.dep + 1⟩ (fam_new (s02.trans (s4.trans s5)) hx5 hdx5 ex ho hnt hdd hd0 (fun s6 => .renamed sdx a D i f (s6 _ _ ho5) g (Nat.lt_succ_self _) (s6 _ _ (s5 _ _ (s4 _ _ hd2))) pm inj fun _ _ => rfl) (F.mat.ren pm inj (pm.nodup_iff.mpr ndm)) srt (by rw [pm.length_eq, List.length_map]; exact few) fun y hy => ?_) pm rfl rfl
      obtain ⟨z, hz, rfl⟩ := List.mem_map.mp (pm.mem_iff.mp hy)
      exact gd z hz
end
end BF
set_option Elab.async false
set_option linter.all false
set_option maxRecDepth 100000
set_option maxHeartbeats 4000000
/-! Own rules: sorted of a tuple of texts. -/
namespace BF
open PySem PySem.Spec PyProof.Rows L2
section
variable {X : Cx}
def rSortedTS (K : PySem.W.Frag) : List V → Hp → VK → Prop := fun vs H Q => ∃ (a : Addr) (xs : List Str), vs = [V.ref a] ∧ SqT K H a (xs.map V.str) ∧ xs.length < 64 ∧
  ∀ (ys : List Str) (p : Addr), ys.Perm xs → sortedS ys = true → H p = none → Q (.ref p) (upd H p (.lst (ys.map V.str)))
theorem cr_sortedTS : CallR X (.builtin "sorted") (rSortedTS X.K) := by
  intro pins s σ H vs us Q I r h
  obtain ⟨a, xs, rfl, hs, h64, q⟩ := h
  obtain ⟨its, rv, hl, hz⟩ := I.tuple hs
  rw [Vals.ref1 r]
  have hlen0 := rv.length
  rw [List.length_map] at hlen0
  have hS := rv.strs
  refine Calls.call_function_entry PyProof.Rows.kind_sorted PyProof.Rows.plain_sorted PyProof.Rows.entry_sorted (PyProof.Rows.args_sorted1 _) ?_
  unfold Builtin.«sorted»
  refine wpAny_bind (m := checkCount "sorted" 1 1 _) (wpAny_pure ?_)
  obtain ⟨o, ho, hc, n, hd⟩ := hl
  refine wpAny_bind (wpAny_collect_seq a (T := "tuple") (.inr rfl) ho hc hd (fun h1 k1 => ?_) (by rw [List.size_toArray, ← hlen0]; exact Nat.le_trans (Nat.le_of_lt h64) (by decide)))
  have I1 : L2.Inv X pins σ H { s with heap := h1 } := I.kept (t' := s.toks) k1
  refine wpAny_bind (wpAny_newList ?_ (by simp only [List.toList_toArray]; rw [← hlen0, sizeLine_eq]; omega))
  simp only [List.toList_toArray]
  have hoL : (h1.push (seqObj "list" its.toArray 0)).get? h1.objs.size = some (seqObj "list" its.toArray 0) := Heap.get?_push_size _ rfl
  show wpAny _ _ _ _ _ { s with heap := h1.push (seqObj "list" its.toArray 0) }
  refine wpAny_bind (wpAny_holding (wpAny_call_entry PyProof.Rows.slot_list_sort ⟨_, hoL, rfl⟩ PyProof.Rows.entry_list_sort
    (list_sort_treeK strKind_oneLt (s := { s with heap := h1.push (seqObj "list" its.toArray 0) }) hoL hS.keysOf (fun v₁ v₂ rest e => keyKind_strs (by rw [← e]; exact hS)) (by rw [← hlen0]; exact h64) fun st' hp hs => ⟨_, rfl, ?_⟩)
    (PyProof.Rows.args_list_sort _)))
  obtain ⟨ys, g1, g2, g3⟩ := sorted_out_str hS hp hs
  obtain ⟨e', he'⟩ := PyProof.Rows.sortedHeap_at (vs := its) (out := (arrOf st').map (·.2)) hoL
  have hlen : (ys.map V.str).length ≤ sizeLine := by
    rw [List.length_map, g2.length_eq]
    exact Nat.le_trans (Nat.le_of_lt h64) (by decide)
  refine wpAny_pure ⟨_, rfl, .ref h1.objs.size, upd H h1.objs.size (.lst (ys.map V.str)), I1.laid (t' := s.toks) (fun b u e => ?_) (Nat.le_refl _)
    (show ObjOk X.prog X.w _ _ _ (.lst (ys.map V.str)) from ⟨hlen, ((arrOf st').map (·.2)).toList, e', vals_of_strs g1, by rw [Array.toArray_toList]; exact he'⟩), rfl, q ys _ g2 g3 (I1.hok.fresh (Nat.le_refl _))⟩
  have hb : b < h1.objs.size := Heap.lt_size e
  rw [PyProof.Rows.sortedHeap_old (Nat.ne_of_lt hb) (by rw [size_push']; exact Nat.lt_succ_of_lt hb)]
  exact Heap.get?_push_of_some _ e
theorem crSortedTS (K : PySem.W.Frag) (h : X.K = K := by rfl) : CallR X (.builtin "sorted") (rSortedTS K) := by subst h; exact cr_sortedTS
end
end BF
set_option Elab.async false
set_option linter.all false
set_option maxRecDepth 100000
set_option maxHeartbeats 4000000
/-! Webs: need_places, is_pair, Web.__init__, ties_family. -/
namespace BF
open PySem PySem.Spec PyProof.Rows L2
section
variable {X : Cx}
def rTupOf (K : PySem.W.Frag) : List V → Hp → VK → Prop := fun xs H Q => ∃ p ys, xs = [.ref p] ∧ ((SqL K H p ys ∧ ∀ l, H l = none → Q (.ref l) (upd H l (.tup ys))) ∨ (SqT K H p ys ∧ Q (.ref p) H))
theorem crTupOf (K : PySem.W.Frag) (h : X.K = K := by rfl) : CallR X (.type "tuple") (rTupOf K) := by subst h; exact call_tuple_of
def rIsiV (K : PySem.W.Frag) : List V → Hp → VK → Prop := rIsi K
theorem crIsi (K : PySem.W.Frag) (h : X.K = K := by rfl) : CallR X (.builtin "isinstance") (rIsi K) := by subst h; exact call_isi
end
def spNeedPlaces (K : PySem.W.Frag) : Sp := fun vs H Q _ => ∃ (a : Addr) (xs : List Str), vs = [.ref a] ∧ SqL K H a (txs xs) ∧ 1 ≤ xs.length ∧ xs.length ≤ 16 ∧ xs.Nodup ∧ (∀ x ∈ xs, good x = true) ∧
  ∀ ys H' p, Same H H' → H p = none → ys.Perm xs → sortedS ys = true → H' p = some (.tup (txs ys)) → Q (.ref p) H'
theorem sc_need_places : FnScope ["places", "index", "name"] ["places"] (defScope s_need_places) := ⟨rfl, rfl, rfl, by decide +kernel, rfl, by decide +kernel, by decide +kernel⟩
def spIsPair (K : PySem.W.Frag) : Sp := fun vs H Q _ => ∃ (kt t : Addr) (ps : List Str) (x y : Str), vs = [.ref kt, .ref t] ∧ SqT K H kt (txs ps) ∧ H t = some (.tup [.str x, .str y]) ∧ x ∈ ps ∧ y ∈ ps ∧ ∀ H', Same H H' → Q (.bl true) H'
theorem sc_is_pair : FnScope ["known", "thing", "place"] ["known", "thing"] (defScope s_is_pair) := ⟨rfl, rfl, rfl, by decide +kernel, rfl, by decide +kernel, by decide +kernel⟩
theorem sc_Web_init : FnScope ["self", "places", "ties", "name"] ["self", "places", "ties"] (defScope s_Web_init) := ⟨rfl, rfl, rfl, by decide +kernel, rfl, by decide +kernel, by decide +kernel⟩
theorem sc_ties_family : FnScope ["web"] ["web"] (defScope s_ties_family) := ⟨rfl, rfl, rfl, by decide +kernel, rfl, by decide +kernel, by decide +kernel⟩
theorem cut_take (xs : List V) (i : Nat) (h : i ≤ xs.length) : cutV xs none (some (i : Int)) = xs.take i := by
  unfold cutV
  rw [HT.sIx_none, HT.sIx_nat, Nat.min_eq_left h, List.drop_zero, Nat.sub_zero]
def spTiesFam (K : PySem.W.Frag) : Sp := fun vs H Q _ => ∃ (Γ : Gh) (s : Addr) (ps : List Str) (es : List Tie), vs = [.ref s] ∧ WebAt K H s ps es ∧ sortedS (es.map (·.1)) = true ∧ es.length ≤ 7 ∧ (∀ x ∈ es.map (·.1), good x = true) ∧
  ∀ H' p (i : FInfo), NewFam K Γ H H' p i → i.E = es.map (·.1) → i.r = rk (clW (endsOf es)) → i.dep = 0 → Q (.ref p) H'
theorem perm_two {a b : Str} {ys : List Str} (h : ys.Perm [a, b]) : ys = [a, b] ∨ ys = [b, a] := by
  match ys, h with
  | [x, y], h =>
    have h1 := h.mem_iff (a := x)
    have h2 := h.mem_iff (a := y)
    have h3 := h.symm.mem_iff (a := a)
    have h4 := h.symm.mem_iff (a := b)
    simp at h1 h2 h3 h4
    rcases h1 with rfl | rfl
    · rcases h2 with rfl | rfl
      · rcases h4 with rfl | rfl <;> exact .inl rfl
      · exact .inl rfl
    · rcases h2 with rfl | rfl
      · exact .inr rfl
      · rcases h3 with rfl | rfl <;> exact .inl rfl
  | [], h => exact absurd h.length_eq (by simp)
  | [x], h => exact absurd h.length_eq (by simp)
  | x :: y :: z :: r, h => exact absurd h.length_eq (by simp)
theorem ne_ke : ¬ (("known" : Str) = "ending") := by decide +kernel
theorem lk1a {f : Str} {x : V} : ([(f, x)] : List (Str × V)).lookup f = some x := by rw [List.lookup_cons]; simp
/-- the same ends, in either order -/
def Swp (e e' : Str → Str × Str) (ts : List Str) : Prop := ∀ t ∈ ts, e' t = e t ∨ e' t = ((e t).2, (e t).1)
def spWebInit (K : PySem.W.Frag) : Sp := fun vs H Q _ => ∃ (s dx pl td : Addr) (ps : List Str) (es : List Tie), vs = [.ref s, .ref pl, .ref td] ∧ H s = some (.ins (He.ga K "Web") dx []) ∧ SqL K H pl (txs ps) ∧ 1 ≤ ps.length ∧ ps.length ≤ 16 ∧ ps.Nodup ∧ (∀ x ∈ ps, good x = true) ∧
  H td = some (.dK (es.map fun e => (.inr e.1, .ref e.2.1))) ∧ (es.map (·.1)).Nodup ∧ es.length ≤ 7 ∧ (∀ x ∈ es.map (·.1), good x = true) ∧ (∀ e ∈ es, H e.2.1 = some (.tup [.str e.2.2.1, .str e.2.2.2]) ∧ e.2.2.1 ∈ ps ∧ e.2.2.2 ∈ ps) ∧
  ∀ H' qs es', Exc s H H' → WebAt K H' s qs es' → (es'.map (·.1)).Perm (es.map (·.1)) → sortedS (es'.map (·.1)) = true → Swp (endsOf es) (endsOf es') (es.map (·.1)) → Q .non H'
theorem ends_eq : ∀ {es : List Tie} {e : Tie}, (es.map (·.1)).Nodup → e ∈ es → endsOf es e.1 = e.2.2
  | d :: es, e, nd, h => by
    rw [List.map_cons, List.nodup_cons] at nd
    rcases List.mem_cons.mp h with rfl | h
    · unfold endsOf; rw [List.find?_cons_of_pos (by simp)]
    · have : ¬ d.1 = e.1 := fun q => nd.1 (List.mem_map.mpr ⟨e, h, q.symm⟩)
      have ih := ends_eq nd.2 h
      rw [← ih]
      unfold endsOf
      rw [List.find?_cons_of_neg (by simp [this])]
theorem ties_of {zs : List Str} {F : Str → V → Prop} {R : Str → Tie → Prop} (hF : ∀ z v, F z v → ∃ a x y, v = .ref a ∧ R z (z, a, x, y)) : ∀ {is : List Nat} {kvs : List (Key × V)}, Paired (fun i p => p.1 = (Sum.inr (zs.getD i e0) : Key) ∧ F (zs.getD i e0) p.2) is kvs →
    ∃ es : List Tie, kvs = es.map (fun e => (Sum.inr e.1, V.ref e.2.1)) ∧ es.map (·.1) = is.map (fun i => zs.getD i e0) ∧ ∀ e ∈ es, R e.1 e
  | _, _, .nil => ⟨[], rfl, rfl, fun e h => by cases h⟩
  | i :: is, p :: kvs, .cons a t => by
    obtain ⟨es, h1, h2, h3⟩ := ties_of hF t
    obtain ⟨b, x, y, h4, h5⟩ := hF _ _ a.2
    refine ⟨(zs.getD i e0, b, x, y) :: es, ?_, ?_, fun e he => ?_⟩
    · rw [List.map_cons, ← h1]
      exact congrArg (· :: kvs) (Prod.ext a.1 h4)
    · rw [List.map_cons, List.map_cons, h2]
    · rcases List.mem_cons.mp he with rfl | he
      · exact h5
      · exact h3 e he
section
variable {P : Program} {w : World} {K : PySem.W.Frag} {mg : Str → Option Value} {base : Heap}
theorem ok_need_places (T : TX K mg) : FOk P w K mg base 2 ("need_places", none) ["places"] (spNeedPlaces K) := by
  refine T.fn 31 (d := d_need_places) rfl rfl rfl sc_need_places (fun vs H Q E h => ?_) (fun _ _ _ _ _ _ us hl => match us, hl with | [_], _ => rfl) (fun cdv A outer s H vs Q E hr h => ?_)
  · obtain ⟨a, xs, rfl, _⟩ := h; rfl
  · obtain ⟨a, xs, rfl, hx, h1, h16, ndx, hg, kk⟩ := h
    have nd := sc_need_places.nd
    obtain ⟨t2, hM⟩ := T.c_MOST_PLACES
    refine ⟨_, pss_cons (ps_if (pt_not (pt_chain op_le op_le pe_int (pe_callB call_len_seq (by rfl) T.f_len (by decide +kernel) (pa_cons (pv 0) pa_nil)) (pe_glob (v := .int 16) (by rfl) hM ⟨_, rfl⟩))) pss_never pss_nil) <|
      pss_cons (ps_for PassesOwn.never rfl (pi_enum (by rfl) T.f_enumerate (pa_cons (pv 0) pa_nil)) (pg_tup rfl (pgs_cons (pg_name (i := 1) nd rfl (.inl rfl)) (pgs_cons (pg_name (i := 2) nd rfl (.inl rfl)) pgs_nil))) <|
        pss_one <| ps_if (pw_or (pt_not (pt_val (pe_cl (ok_is_name T) hr T.g_is_name (pa_cons (pv 2) pa_nil)))) (pw_or1 (pt_cmpR op_in_seq (pv 2) (pe_slice sl_list (pv 0) po_none (po_some (pv 1))) (by rfl)))).pt pss_never pss_nil) <|
      pss_one (ps_ret (pe_callTy call_tuple_of (by rfl) T.f_tuple (by decide +kernel) (pa_cons (pe_callB cr_sortedS (by rfl) T.f_sorted (by decide +kernel) (pa_cons (pv 0) pa_nil)) pa_nil))), ?_⟩
    refine ⟨_, rfl, a, txs xs, rfl, .inl hx, 1, _, rfl, rfl, _, rfl, ?_⟩
    refine ifT (decide_eq_true (by simp; omega)) ⟨_, _, rfl, rfl, _, rfl, ifF (by rw [decide_eq_true (by simp; omega)]; rfl) ?_⟩
    refine ⟨_, rfl, a, txs xs, rfl, hx, ?_⟩
    refine forE (fun i σ H1 => (∃ o1 o2, σ = [some (.ref a), o1, o2]) ∧ Same H H1) (fun i σ H1 p => same_seqL p.2 hx) ⟨⟨none, none, rfl⟩, Same.refl _⟩ ?_ ?_
    · rintro σ H1 ⟨⟨o1, o2, rfl⟩, s1⟩
      refine ⟨_, rfl, a, xs, rfl, same_seqL s1 hx, by omega, fun ys q pm srt hq => ⟨q, _, rfl, .inl ⟨SqL.of upd_same, fun t ht => ?_⟩⟩⟩
      have s2 : Same H (upd H1 q (.lst (txs ys))) := same_put s1 (s1.free hq)
      exact kk ys _ t (same_put s2 (s2.free ht)) (s2.free ht) pm srt upd_same
    · rintro i x σ H1 T' hi ⟨⟨o1, o2, rfl⟩, s1⟩ hT N hN
      obtain ⟨y, hy, rfl⟩ := txs_at hi
      have hil : i ≤ (txs xs).length := Nat.le_of_lt (List.getElem?_eq_some_iff.mp hi).1
      refine ⟨T', _, rfl, SqT.of upd_same, rfl, _, _, rfl, _, _, rfl, rfl, ?_⟩
      refine ⟨_, rfl, y, rfl, hg y (List.mem_of_getElem? hy), fun H2 s2 => ⟨_, rfl, iteF ?_⟩⟩
      have sH : Same H H2 := fun b o e => s2 _ _ (same_put s1 (s1.free hT) _ _ e)
      refine ⟨_, rfl, _, rfl, _, rfl, (i : Int), rfl, a, txs xs, rfl, same_seqL sH hx, fun p hp => ?_⟩
      rw [cut_take _ _ hil]
      have et : (txs xs).take i = txs (xs.take i) := (List.map_take).symm
      rw [et]
      refine ⟨p, _, rfl, .inl (SqL.of upd_same), rfl, flat_txs _, _, rfl, ?_⟩
      rw [if_neg (by decide), inV_txs, mem_f.mpr (not_in_take ndx hy)]
      exact iteF (hN _ _ ⟨⟨_, _, rfl⟩, same_put sH (sH.free hp)⟩)
theorem ok_is_pair (T : TX K mg) : FOk P w K mg base 1 ("is_pair", none) ["known", "thing"] (spIsPair K) := by
  refine T.fn 32 (d := d_is_pair) rfl rfl rfl sc_is_pair (fun vs H Q E h => ?_) (fun _ _ _ _ _ _ us hl => match us, hl with | [_, _], _ => rfl) (fun cdv A outer s H vs Q E hr h => ?_)
  · obtain ⟨kt, t, ps, x, y, rfl, _⟩ := h; rfl
  · obtain ⟨kt, t, ps, x, y, rfl, hk, ht, hx, hy, kk⟩ := h
    have nd := sc_is_pair.nd
    refine ⟨_, pss_cons (ps_if (pw_or (pt_not (pt_val (pe_callB call_isi (by rfl) T.f_isinstance (by decide +kernel) (pa_cons (pv 1) (pa_cons (pe_bltn (v := .ty "tuple") (by rfl) T.f_tuple (by decide +kernel) rfl) pa_nil)))))
        (pw_or1 (pt_cmpR op_ne (pe_callB call_len_seq (by rfl) T.f_len (by decide +kernel) (pa_cons (pv 1) pa_nil)) pe_int (by rfl)))).pt (pss_one (ps_ret pe_bl)) pss_nil) <|
      pss_one (ps_ret (pe_callB (cr_all rfl) (by rfl) T.f_all (by decide +kernel) (pa_cons
        (pe_lc (own := [("place", 2)]) (g := gName 2) rfl nd (pi_tup (pv 1)) (blkOk_by (N := ["known", "thing", "place"]) (sc := defScope s_is_pair) (by decide +kernel)) (fun _ _ _ _ _ => pg_name (i := 2) nd rfl (Or.inl rfl))
          (fun _ _ _ _ _ => pts_nil) (fun _ _ _ _ _ => pe_and (pe_callB (crIsi K) (by rfl) T.f_isinstance (by decide +kernel) (pa_cons (pv 2) (pa_cons (pe_bltn (v := .ty "str") (by rfl) T.f_str (by decide +kernel) rfl) pa_nil))) (pe_one (pe_cmpR (opIn K) (pv 2) (pv 0) (by rfl))))) pa_nil))), ?_⟩
    refine ⟨_, rfl, _, _, _, _, _, rfl, .ty "tuple", .base (.tup ht), kit_ty (r := true) (by decide +kernel), true, rfl, iteF ?_⟩
    refine ⟨_, rfl, t, _, rfl, .inr (SqT.of ht), rfl, _, rfl, ifF (by rw [show decide (V.int (([V.str x, V.str y].length : Nat) : Int) = V.int 2) = true from decide_eq_true rfl]; rfl) ?_⟩
    refine ⟨_, rfl, t, rfl, ⟨_, SqT.of ht⟩, fun D hD => ?_⟩
    have both : ∀ (i : Nat) (v : V), ([V.str x, V.str y] : List V)[i]? = some v → ∃ z : Str, v = V.str z ∧ z ∈ ps := fun i v h => by
      match i, h with
      | 0, h => exact ⟨x, (Option.some.inj h).symm, hx⟩
      | 1, h => exact ⟨y, (Option.some.inj h).symm, hy⟩
      | i + 2, h => simp at h
    refine lcV (H0 := H) (same_frm H) (src_tup fun H' r => SqT.of (r _ _ ht)) (fun _ => true) (fun _ => .bl true) (by simp) (fun x => rfl) hD (same_new hD) ?_ ?_ ?_
    · intro i v H1 Qb hi r q
      exact q H1 (Same.refl _)
    · intro i v H1 Qv hi _ r q
      obtain ⟨z, rfl, hz⟩ := both i v hi
      refine ⟨_, rfl, _, _, _, _, _, rfl, .ty "str", .base (.str z), kit_ty (r := true) (by decide +kernel), true, rfl, iteT ?_⟩
      refine ⟨_, rfl, _, rfl, kt, _, rfl, .inr (same_seqT r hk), rfl, flat_txs _, ?_⟩
      rw [if_neg (by decide), inV_txs, mem_t.mpr hz]
      exact q H1 (Same.refl _)
    · intro H1 r hd
      refine ⟨D, [true, true], rfl, SqL.of hd, kk H1 r⟩
theorem ok_Web_init (T : TX K mg) : FOk P w K mg base 3 ("Web", some "__init__") ["self", "places", "ties"] (spWebInit K) := by
  refine T.fn 33 (d := d_Web_init) rfl rfl rfl sc_Web_init (fun vs H Q E h => ?_) (fun _ _ _ _ _ _ us hl => match us, hl with | [_, _, _], _ => rfl) (fun cdv A outer s H vs Q E hr h => ?_)
  · obtain ⟨s, dx, pl, td, ps, es, rfl, _⟩ := h; rfl
  · obtain ⟨s, dx, pl, td, ps, es, rfl, hs, hpl, l1, l16, ndp, gp, htd, nde, l7, ge, hes, kk⟩ := h
    have nd := sc_Web_init.nd
    have hu := hu_of hr
    obtain ⟨t2, hM⟩ := T.c_MOST_THINGS
    refine ⟨_, pss_cons (ps_fld (pv 0) (pe_cl (ok_need_places T) hr T.g_need_places (pa_cons (pv 1) pa_nil)) rfl) <|
      pss_cons (ps_for PassesOwn.never rfl (pi_list (pe_callB cr_sortedS (by rfl) T.f_sorted (by decide +kernel) (pa_cons (pe_callTy (call_listD rfl) (by rfl) T.f_list (by decide +kernel) (pa_cons (pv 2) pa_nil)) pa_nil))) (pg_name (i := 3) nd rfl (Or.inl rfl)) <|
        pss_one <| ps_if (pw_or (pt_not (pt_val (pe_cl (ok_is_name T) (hr.mono (by omega)) T.g_is_name (pa_cons (pv 3) pa_nil)))) (pw_or1 (pt_not (pt_val (pe_cl (ok_is_pair T) (hr.mono (by omega)) T.g_is_pair (pa_cons (pe_fld (pv 0) rfl) (pa_cons (pe_dget hu (pv 2) (pv 3) (fun _ _ => rfl)) pa_nil))))))).pt pss_never pss_nil) <|
      pss_cons (ps_if (pt_cmp (pc_gt (pe_callB call_lenD (by rfl) T.f_len (by decide +kernel) (pa_cons (pv 2) pa_nil)) (pe_glob (v := .int 24) (by rfl) hM ⟨_, rfl⟩))) pss_never pss_nil) <|
      pss_one (ps_fld (pv 0) (pe_dc (own := [("name", 3)]) (g := gName 3) rfl nd (pi_list (pe_callB cr_sortedS (by rfl) T.f_sorted (by decide +kernel) (pa_cons (pe_callTy (call_listD rfl) (by rfl) T.f_list (by decide +kernel) (pa_cons (pv 2) pa_nil)) pa_nil))) (blkOk_by (N := ["self", "places", "ties", "name"]) (sc := defScope s_Web_init) (by decide +kernel)) (fun _ _ _ _ _ => pg_name (i := 3) nd rfl (Or.inl rfl))
        (fun _ _ _ _ _ => pts_nil) (fun _ _ _ _ _ => pv 3) (fun _ _ _ _ _ => pe_callTy (crTupOf K) (by rfl) T.f_tuple (by decide +kernel) (pa_cons (pe_callB (crSortedTS K) (by rfl) T.f_sorted (by decide +kernel) (pa_cons (pe_dget hu (pv 2) (pv 3) (fun _ _ => rfl)) pa_nil)) pa_nil))) rfl), ?_⟩
    -- the names, sorted
    have keys : ((es.map fun e => ((Sum.inr e.1 : Key), V.ref e.2.1)).map fun kv => kV kv.1) = txs (es.map (·.1)) := by
      show _ = List.map V.str _
      rw [List.map_map, List.map_map]; rfl
    have lns : (es.map (·.1)).length ≤ 7 := by rw [List.length_map]; exact l7
    refine ⟨_, rfl, pl, ps, rfl, hpl, l1, l16, ndp, gp, fun qs H1 kt s1 hkt pmq srtq hkt1 => ?_⟩
    refine ⟨_, rfl, s, _, dx, [], rfl, s1 _ _ hs, T.cl_Web, T.na_Web_known, by decide, ?_⟩
    have hs2 : upd H1 s (.ins (He.ga K "Web") dx (putF "known" (.ref kt) [])) s = some (.ins (He.ga K "Web") dx [("known", .ref kt)]) := upd_same
    have ex2 : Exc s H (upd H1 s (.ins (He.ga K "Web") dx (putF "known" (.ref kt) []))) := (exc_of s1).put
    have keep : ∀ b o, H1 b = some o → (∀ C d f, o ≠ .ins C d f) → upd H1 s (.ins (He.ga K "Web") dx (putF "known" (.ref kt) [])) b = some o := fun b o h n => by
      rw [upd_ne (fun e => by rw [e, s1 _ _ hs] at h; exact n _ _ _ (Option.some.inj h).symm)]; exact h
    have htd2 := keep _ _ (s1 _ _ htd) (fun _ _ _ e => nomatch e)
    have hkt2 := keep _ _ hkt1 (fun _ _ _ e => nomatch e)
    have hes2 : ∀ e ∈ es, upd H1 s (.ins (He.ga K "Web") dx (putF "known" (.ref kt) [])) e.2.1 = some (.tup [.str e.2.2.1, .str e.2.2.2]) := fun e he => keep _ _ (s1 _ _ (hes e he).1) (fun _ _ _ e => nomatch e)
    generalize upd H1 s (.ins (He.ga K "Web") dx (putF "known" (.ref kt) [])) = H2 at *
    have qm : ∀ x, x ∈ qs ↔ x ∈ ps := fun x => pmq.mem_iff
    refine ⟨_, rfl, td, _, rfl, .inl htd2, fun p hp => ?_⟩
    rw [keys]
    refine ⟨p, es.map (·.1), rfl, SqL.of upd_same, by omega, fun zs q pmz srtz hq => ⟨q, rfl, ⟨_, SqL.of upd_same⟩, ?_⟩⟩
    have s3 : Same H2 (upd H2 p (.lst (txs (es.map (·.1))))) := same_new hp
    have s4 : Same H2 (upd (upd H2 p (.lst (txs (es.map (·.1))))) q (.lst (txs zs))) := same_put s3 (s3.free hq)
    have hq4 : (upd (upd H2 p (.lst (txs (es.map (·.1))))) q (.lst (txs zs))) q = some (.lst (txs zs)) := upd_same
    generalize upd (upd H2 p (.lst (txs (es.map (·.1))))) q (.lst (txs zs)) = H4 at *
    refine forJ (R := Same) (H0 := H4) (src_list fun H' r => SqL.of (r _ _ hq4)) (fun m σ H5 => (∃ o3, σ = [some (.ref s), some (.ref pl), some (.ref td), o3]) ∧ Same H4 H5) (fun m σ H5 p => p.2) ⟨⟨none, rfl⟩, Same.refl _⟩ ?_ ?_
    · rintro σ H5 ⟨⟨o3, rfl⟩, s5⟩
      have s25 : Same H2 H5 := s4.trans s5
      refine ⟨_, rfl, td, _, rfl, s25 _ _ htd2, _, _, rfl, rfl, _, rfl, ?_⟩
      refine ifF (decide_eq_false (by rw [List.length_map]; omega)) ?_
      refine ⟨_, rfl, td, _, rfl, .inl (s25 _ _ htd2), fun p2 hp2 => ?_⟩
      rw [keys]
      refine ⟨p2, es.map (·.1), rfl, SqL.of upd_same, by omega, fun ws q2 pmw srtw hq2 => ⟨q2, rfl, ⟨_, SqL.of upd_same⟩, fun D hD => ?_⟩⟩
      have s6 : Same H5 (upd H5 p2 (.lst (txs (es.map (·.1))))) := same_new hp2
      have s7 : Same H5 (upd (upd H5 p2 (.lst (txs (es.map (·.1))))) q2 (.lst (txs ws))) := same_put s6 (s6.free hq2)
      have hq7 : (upd (upd H5 p2 (.lst (txs (es.map (·.1))))) q2 (.lst (txs ws))) q2 = some (.lst (txs ws)) := upd_same
      generalize upd (upd H5 p2 (.lst (txs (es.map (·.1))))) q2 (.lst (txs ws)) = H7 at *
      have s27 := s25.trans s7
      have ndw : ws.Nodup := pmw.nodup_iff.mpr nde
      have lw : ws.length ≤ 7 := by rw [pmw.length_eq]; exact lns
      refine dcK (H0 := H7) (src_list fun H' r => SqL.of (r _ _ hq7)) (fun _ => true) (fun m => .inr (ws.getD m e0)) (fun m v H8 => ∃ a x y, v = .ref a ∧ H8 a = some (.tup [.str x, .str y]) ∧ ((x, y) = endsOf es (ws.getD m e0) ∨ (y, x) = endsOf es (ws.getD m e0)) ∧ x ∈ qs ∧ y ∈ qs) (by simp; omega)
        (fun m v H8 H9 ⟨a, x, y, e, h, r⟩ s8 => ⟨a, x, y, e, s8 _ _ h, r⟩) (fun m v H8 l l' ⟨a, x, y, e, h, r⟩ hl => ⟨a, x, y, e, by rw [upd_ne (fun z => by rw [z, hl] at h; cases h)]; exact h, r⟩) (fun m j hjm hm _ _ qq => ?_) (fun x => rfl) hD (same_new hD) ?_ ?_ ?_
      · have hm' : m < ws.length := by simpa using hm
        have e := Sum.inr.inj qq
        rw [List.getD_eq_getElem?_getD, List.getD_eq_getElem?_getD, List.getElem?_eq_getElem hm', List.getElem?_eq_getElem (by omega)] at e
        have := (List.getElem_inj ndw).mp e
        omega
      · intro m x H8 Qb hi r qq
        exact qq H8 (Same.refl _)
      · intro m x H8 Qv hi _ r qq
        obtain ⟨z, hz, rfl⟩ := txs_at hi
        have zin : z ∈ es.map (·.1) := pmw.mem_iff.mp (List.mem_of_getElem? hz)
        obtain ⟨e, he, hez, hends, hval⟩ := ends_at zin
        have s28 := s27.trans r
        have g1 := DGet.k (k := .inr z) (s28 _ _ htd2)
        rw [hval] at g1
        have htup := s28 _ _ (hes2 e he)
        obtain ⟨_, e1, e2⟩ := hes e he
        refine ⟨_, rfl, _, rfl, _, rfl, td, _, rfl, g1, ?_⟩
        refine ⟨e.2.1, [e.2.2.1, e.2.2.2], rfl, SqT.of htup, by simp, fun ys a pmy srty ha => ⟨a, txs ys, rfl, .inl ⟨SqL.of upd_same, fun t ht => ?_⟩⟩⟩
        have s9 : Same H8 (upd H8 a (.lst (txs ys))) := same_new ha
        have s10 : Same H8 (upd (upd H8 a (.lst (txs ys))) t (.tup (txs ys))) := same_put s9 (s9.free ht)
        have key : ys = [e.2.2.1, e.2.2.2] ∨ ys = [e.2.2.2, e.2.2.1] := perm_two pmy
        rw [← getD_at (d := e0) hz]
        refine qq (.ref t) _ s10 ?_
        rw [getD_at (d := e0) hz, hends]
        rcases key with rfl | rfl
        · exact ⟨t, _, _, rfl, upd_same, .inl rfl, (qm _).mpr e1, (qm _).mpr e2⟩
        · exact ⟨t, _, _, rfl, upd_same, .inr rfl, (qm _).mpr e2, (qm _).mpr e1⟩
      · intro H8 kvs s8 hd8 pk
        have s28 := s27.trans s8
        obtain ⟨es', h1, h2, h3⟩ := ties_of (zs := ws) (F := fun z v => ∃ a x y, v = .ref a ∧ H8 a = some (.tup [.str x, .str y]) ∧ ((x, y) = endsOf es z ∨ (y, x) = endsOf es z) ∧ x ∈ qs ∧ y ∈ qs)
          (R := fun z e => e.1 = z ∧ H8 e.2.1 = some (.tup [.str e.2.2.1, .str e.2.2.2]) ∧ (e.2.2 = endsOf es z ∨ (e.2.2.2, e.2.2.1) = endsOf es z) ∧ e.2.2.1 ∈ qs ∧ e.2.2.2 ∈ qs) (fun z v ⟨a, x, y, e, r⟩ => ⟨a, x, y, e, rfl, r⟩) pk
        have h2' : es'.map (·.1) = ws := by
          rw [h2, List.length_map, picks_all]
          have := map_range' (fun x : Str => x) e0 ws
          rw [List.map_id'] at this
          exact this
        subst h1
        refine ⟨_, rfl, s, _, dx, [("known", .ref kt)], rfl, s28 _ _ hs2, T.cl_Web, T.na_Web_ending, by show 1 < 1000; omega, ?_⟩
        rw [putF2 ne_ke]
        have ns : ∀ {b : Addr} {o : HO}, H8 b = some o → (∀ C d f, o ≠ .ins C d f) → b ≠ s := fun h n e => by
          rw [e, s28 _ _ hs2] at h; exact n _ _ _ (Option.some.inj h).symm
        have nd' : (es'.map (·.1)).Nodup := by rw [h2']; exact ndw
        refine kk _ qs es' ((ex2.same s28).put) ⟨⟨dx, kt, D, upd_same, by rw [upd_ne (ns (s28 _ _ hkt2) (fun _ _ _ e => nomatch e))]; exact s28 _ _ hkt2, by rw [upd_ne (ns hd8 (fun _ _ _ e => nomatch e))]; exact hd8⟩, fun e he => ?_, pmq.nodup_iff.mpr ndp, nd', by rw [pmq.length_eq]; exact l16⟩ (by rw [h2']; exact pmw) (by rw [h2']; exact srtw) fun t ht => ?_
        · obtain ⟨_, h4, _, h5, h6⟩ := h3 e he
          exact ⟨by rw [upd_ne (ns h4 (fun _ _ _ e => nomatch e))]; exact h4, h5, h6⟩
        · have : t ∈ es'.map (·.1) := by rw [h2']; exact pmw.mem_iff.mpr ht
          obtain ⟨e, he, rfl⟩ := List.mem_map.mp this
          rw [ends_eq nd' he]
          obtain ⟨_, _, h5, _⟩ := h3 e he
          rcases h5 with h5 | h5
          · exact .inl h5
          · right; rw [← h5]
    · rintro m x σ H5 hm ⟨⟨o3, rfl⟩, s5⟩ N hN
      obtain ⟨z, hz, rfl⟩ := txs_at hm
      have zin : z ∈ es.map (·.1) := pmz.mem_iff.mp (List.mem_of_getElem? hz)
      obtain ⟨e, he, hez, hends, hval⟩ := ends_at zin
      have s25 := s4.trans s5
      refine ⟨_, rfl, z, rfl, ge z zin, fun H6 s6 => ⟨_, rfl, iteF ?_⟩⟩
      have s26 := s25.trans s6
      have g1 := DGet.k (k := .inr z) (s26 _ _ htd2)
      rw [hval] at g1
      obtain ⟨_, e1, e2⟩ := hes e he
      refine ⟨_, rfl, s, _, dx, _, _, rfl, s26 _ _ hs2, T.cl_Web, T.na_Web_known, lk1a, _, rfl, _, rfl, td, _, rfl, g1, ?_⟩
      refine ⟨kt, e.2.1, qs, e.2.2.1, e.2.2.2, rfl, SqT.of (s26 _ _ hkt2), s26 _ _ (hes2 e he), (qm _).mpr e1, (qm _).mpr e2, fun H7 s7 => ⟨_, rfl, iteF ?_⟩⟩
      exact hN _ _ ⟨⟨_, rfl⟩, s5.trans (s6.trans s7)⟩
theorem ok_ties_family (T : TX K mg) : FOk P w K mg base 3 ("ties_family", none) ["web"] (spTiesFam K) := by
  refine T.fn 36 (d := d_ties_family) rfl rfl rfl sc_ties_family (fun vs H Q E h => ?_) (fun _ _ _ _ _ _ us hl => match us, hl with | [_], _ => rfl) (fun cdv A outer s H vs Q E hr h => ?_)
  · obtain ⟨Γ, s, ps, es, rfl, _⟩ := h; rfl
  · obtain ⟨Γ, s, ps, es, rfl, ww, srt, l7, ge, kk⟩ := h
    have nd := sc_ties_family.nd
    refine ⟨_, pss_one (ps_ret (pe_mk T.mk_Family (ok_Family_init T) hr T.g_Family (pa_cons (pe_callB cr_sortedS (by rfl) T.f_sorted (by decide +kernel) (pa_cons (pe_callTy (call_listD rfl) (by rfl) T.f_list (by decide +kernel) (pa_cons (pe_fld (pv 0) rfl) pa_nil)) pa_nil)) (pa_cons (pv 0) pa_nil)))), ?_⟩
    obtain ⟨dx, kt, ed, ho, hk, he⟩ := ww.ob
    have keys : ((es.map fun e => ((Sum.inr e.1 : Key), V.ref e.2.1)).map fun kv => kV kv.1) = txs (es.map (·.1)) := by
      show _ = List.map V.str _
      rw [List.map_map, List.map_map]; rfl
    refine ⟨_, rfl, s, _, dx, _, _, rfl, ho, T.cl_Web, T.na_Web_ending, webF_ending _ _, ed, _, rfl, .inl he, fun p hp => ?_⟩
    rw [keys]
    refine ⟨p, es.map (·.1), rfl, SqL.of upd_same, by rw [List.length_map]; omega, fun ys nl pm srty hnl => ?_⟩
    have s1 : Same H (upd H p (.lst (txs (es.map (·.1))))) := same_new hp
    have s2 : Same H (upd (upd H p (.lst (txs (es.map (·.1))))) nl (.lst (txs ys))) := same_put s1 (s1.free hnl)
    have hnl2 : (upd (upd H p (.lst (txs (es.map (·.1))))) nl (.lst (txs ys))) nl = some (.lst (txs ys)) := upd_same
    generalize upd (upd H p (.lst (txs (es.map (·.1))))) nl (.lst (txs ys)) = H2 at *
    have ey : ys = es.map (·.1) := sorted_eq pm srty srt
    refine ⟨_, rfl, fun x dx2 hx hdx hne => ?_⟩
    refine ⟨x, dx2, nl, s, ys, rfl, upd_same, .inl (by rw [upd_ne (ne_of_none hnl2 hx), upd_ne (ne_of_none hnl2 hdx)]; exact hnl2), fun H3 nt d ex ho3 hnt hd hd0 => ⟨rfl, ?_⟩⟩
    refine kk H3 x ⟨nt, s, d, ys, rk (clW (endsOf es)), 0⟩ (fam_new s2 hx hdx ex ho3 hnt hd hd0 (fun s3 => .web ps es ((ww.same s2).same s3) (fun x hx => by rw [← ey]; exact hx) fun _ _ => rfl) ((clo_web (endsOf es)).mat (by rw [ey]; exact ww.ndE)) srty (by rw [ey, List.length_map]; omega) fun y hy => ge y (by rw [← ey]; exact hy)) ey rfl rfl
end
end BF
set_option Elab.async false
set_option linter.all false
set_option maxRecDepth 100000
set_option maxHeartbeats 4000000
/-! need_bases. -/
namespace BF
open PySem PySem.Spec PyProof.Rows L2
def lotD (l : List Str) : PyData := .tuple (l.map PyData.str)
def ListU (H : Hp) (v : V) (l : List Str) : Prop := ∃ a, v = .ref a ∧ H a = some (.lst (txs l))
theorem lot_dp {K : PySem.W.Frag} {H : Hp} {v : V} {l : List Str} (h : LotAt H v l) : Dp K H v (lotD l) := by
  obtain ⟨a, rfl, h⟩ := h
  exact .tup (SqT.of h) (strs_dp l)
theorem lots_dp {K : PySem.W.Frag} {H : Hp} : ∀ {us : List V} {Ls : List (List Str)}, Paired (LotAt H) us Ls → DpAll K H us (Ls.map lotD)
  | _, _, .nil => .nil
  | _, _, .cons a t => .cons (lot_dp a) (lots_dp t)
theorem LotAt.same {H H' : Hp} (s : Same H H') {v : V} {l : List Str} (h : LotAt H v l) : LotAt H' v l := let ⟨a, e, h⟩ := h; ⟨a, e, s _ _ h⟩
theorem strsAll_lay (l : List Str) (hok : ∀ x ∈ l, PyData.strOk x = true) : PyData.canLayAll0 (l.map PyData.str) = true := by
  induction l with
  | nil => simp [PyData.canLayAll0]
  | cons x l ih =>
    have h1 := hok x List.mem_cons_self
    have h2 := ih fun y hy => hok y (List.mem_cons_of_mem _ hy)
    simp [PyData.canLay0, PyData.canLayAll0, h1]
    exact h2
theorem strs_depth (l : List Str) : PyData.depthAll (l.map PyData.str) ≤ 3 := by
  induction l with
  | nil => simp [PyData.depthAll]
  | cons x l ih => simp [PyData.depthAll, PyData.depth] at ih ⊢; omega
theorem lot_depth (l : List Str) : (lotD l).depth ≤ 4 := by
  have := strs_depth l
  unfold lotD
  simp only [PyData.depth]
  omega
theorem lot_shaped {l : List Str} (hok : ∀ x ∈ l, PyData.strOk x = true) : SeqAt.shaped (lotD l) = true := by
  unfold SeqAt.shaped
  rw [Bool.and_eq_true]
  refine ⟨?_, decide_eq_true (by have := lot_depth l; omega)⟩
  unfold lotD
  simp only [PyData.canLay0]
  exact strsAll_lay l hok
theorem lots_shaped {Ls : List (List Str)} (hok : ∀ l ∈ Ls, ∀ x ∈ l, PyData.strOk x = true) : SeqAt.shaped (.list (Ls.map lotD)) = true := by
  unfold SeqAt.shaped
  rw [Bool.and_eq_true]
  constructor
  · simp only [PyData.canLay0]
    induction Ls with
    | nil => simp [PyData.canLayAll0]
    | cons l Ls ih =>
      have h2 := ih fun m hm => hok m (List.mem_cons_of_mem _ hm)
      have h1 := strsAll_lay l (hok l List.mem_cons_self)
      simp only [List.map_cons, PyData.canLayAll0, Bool.and_eq_true]
      refine ⟨?_, h2⟩
      unfold lotD
      simp only [PyData.canLay0]
      exact h1
  · apply decide_eq_true
    have : PyData.depthAll (Ls.map lotD) ≤ 5 := by
      clear hok
      induction Ls with
      | nil => simp [PyData.depthAll]
      | cons l Ls ih =>
        have := lot_depth l
        simp only [List.map_cons, PyData.depthAll]
        omega
    simp only [PyData.depth]
    omega
theorem strs_eqv : ∀ a b : List Str, PyData.eqvAll (a.map PyData.str) (b.map PyData.str) = decide (a = b)
  | [], [] => by simp [PyData.eqvAll]
  | [], _ :: _ => by simp [PyData.eqvAll]
  | _ :: _, [] => by simp [PyData.eqvAll]
  | x :: a, y :: b => by
    rw [List.map_cons, List.map_cons]
    simp only [PyData.eqvAll, PyData.eqv, strs_eqv a b]
    by_cases h : x = y
    · subst h; simp
    · simp [h]
theorem lot_eqv (a b : List Str) : PyData.eqv (lotD a) (lotD b) = decide (a = b) := by
  unfold lotD
  simp only [PyData.eqv]
  exact strs_eqv a b
theorem any_lots (b : List Str) : ∀ Ls : List (List Str), ((Ls.map lotD).any fun z => PyData.eqv z (lotD b)) = decide (b ∈ Ls)
  | [] => by simp
  | a :: Ls => by
    rw [List.map_cons, List.any_cons, any_lots b Ls, lot_eqv]
    by_cases e : a = b
    · subst e; simp
    · have : ¬ b = a := fun q => e q.symm
      simp [e, this]
theorem strs_alike : ∀ a b : List Str, a.length = b.length → PySem.W.alikeAll (a.map PyData.str) (b.map PyData.str) = true
  | [], [], _ => by simp [PySem.W.alikeAll]
  | x :: a, y :: b, h => by
    rw [List.map_cons, List.map_cons]
    simp only [PySem.W.alikeAll, PySem.W.alike]
    exact strs_alike a b (by simpa using h)
  | [], _ :: _, h => by simp at h
  | _ :: _, [], h => by simp at h
theorem not_in_take' {α} {xs : List α} {i : Nat} {x : α} (nd : xs.Nodup) (h : xs[i]? = some x) : x ∉ xs.take i := by
  intro q
  obtain ⟨j, hj, e⟩ := List.mem_iff_getElem.mp q
  have hji : j < i := by rw [List.length_take] at hj; omega
  rw [List.getElem_take] at e
  obtain ⟨hi, e2⟩ := List.getElem?_eq_some_iff.mp h
  have := (List.getElem_inj nd).mp (e.trans e2.symm)
  omega
theorem paired_perm {F : V → List Str → Prop} {xs ys : List V} {Ls : List (List Str)} (h : Paired F xs Ls) (p : ys.Perm xs) : ∃ Cs : List (List Str), Cs.Perm Ls ∧ Paired F ys Cs := by
  induction p generalizing Ls with
  | nil => cases h; exact ⟨[], .nil, .nil⟩
  | cons x _ ih =>
    cases h with
    | cons a t =>
      obtain ⟨Cs, h1, h2⟩ := ih t
      exact ⟨_ :: Cs, h1.cons _, .cons a h2⟩
  | swap x y l =>
    cases h with
    | cons a t =>
      cases t with
      | cons b t => exact ⟨_ :: _ :: _, .swap _ _ _, .cons b (.cons a t)⟩
  | trans _ _ ih1 ih2 =>
    obtain ⟨Cs, h1, h2⟩ := ih2 h
    obtain ⟨Ds, h3, h4⟩ := ih1 h2
    exact ⟨Ds, h3.trans h1, h4⟩
def spNeedBases (K : PySem.W.Frag) : Sp := fun vs H Q _ => ∃ (nl ll : Addr) (E : List Str) (us : List V) (Ls Bs : List (List Str)) (n : Nat), vs = [.ref nl, .ref ll] ∧ SqL K H nl (txs E) ∧ SqL K H ll us ∧ Paired (ListU H) us Ls ∧ Paired (fun L B => L.Perm B) Ls Bs ∧ Bs.Nodup ∧ Bs ≠ [] ∧ Bs.length ≤ 1000 ∧
  (∀ B ∈ Bs, B.Sublist E ∧ B.length = n) ∧ E.Nodup ∧ sortedS E = true ∧ E.length ≤ 14 ∧ (∀ x ∈ E, PyData.strOk x = true) ∧
  ∀ H' p ws Cs, Same H H' → H p = none → H' p = some (.lst ws) → Paired (LotAt H') ws Cs → Cs.Perm Bs → Q (.ref p) H'
theorem sc_need_bases : FnScope ["names", "lots", "found", "index", "lot", "one", "thing"] ["names", "lots"] (defScope s_need_bases) := ⟨rfl, rfl, rfl, by decide +kernel, rfl, by decide +kernel, by decide +kernel⟩
section
variable {P : Program} {w : World} {K : PySem.W.Frag} {mg : Str → Option Value} {base : Heap}
theorem ok_need_bases (T : TX K mg) : FOk P w K mg base 1 ("need_bases", none) ["names", "lots"] (spNeedBases K) := by
  refine T.fn 15 (d := d_need_bases) rfl rfl rfl sc_need_bases (fun vs H Q E h => ?_) (fun _ _ _ _ _ _ us hl => match us, hl with | [_, _], _ => rfl) (fun cdv A outer s H vs Q E hr h => ?_)
  · obtain ⟨nl, ll, E, us, Ls, Bs, n, rfl, _⟩ := h; rfl
  · obtain ⟨nl, ll, E, us, Ls, Bs, n, rfl, hnl, hll, pu, pL, ndB, neB, lB, hB, ndE, srtE, fewE, hok, kk⟩ := h
    have nd := sc_need_bases.nd
    have hu := hu_of hr
    have hu6 := hu65 hr
    refine ⟨_, pss_cons (ps_if (pt_cmp (pc_eqI (pe_callB call_len_seq (by rfl) T.f_len (by decide +kernel) (pa_cons (pv 1) pa_nil)) pe_int)) pss_never pss_nil) <|
      pss_cons (ps_set (i := 2) nd rfl (Or.inl rfl) (pe_lst pa_nil)) <|
      pss_cons (ps_for PassesOwn.never rfl (pi_enum (by rfl) T.f_enumerate (pa_cons (pv 1) pa_nil)) (pg_tup rfl (pgs_cons (pg_name (i := 3) nd rfl (.inl rfl)) (pgs_cons (pg_name (i := 4) nd rfl (.inl rfl)) pgs_nil))) <|
        pss_cons (ps_set (i := 5) nd rfl (Or.inl rfl) (pe_callTy call_tuple_of (by rfl) T.f_tuple (by decide +kernel) (pa_cons (pe_callB cr_sortedS (by rfl) T.f_sorted (by decide +kernel) (pa_cons (pv 4) pa_nil)) pa_nil))) <|
        pss_cons (ps_if (pw_or (pt_not (pt_val (pe_callB (cr_all rfl) (by rfl) T.f_all (by decide +kernel) (pa_cons
            (pe_lc (own := [("thing", 6)]) (g := gName 6) rfl nd (pi_list (pv 4)) (blkOk_by (N := ["names", "lots", "found", "index", "lot", "one", "thing"]) (sc := defScope s_need_bases) (by decide +kernel)) (fun _ _ _ _ _ => pg_name (i := 6) nd rfl (Or.inl rfl)) (fun _ _ _ _ _ => pts_nil) (fun _ _ _ _ _ => pe_cmpR (opIn K) (pv 6) (pv 0) (by rfl))) pa_nil))))
          (pw_or (pt_cmp (pc_lt (pe_lenSetT rfl (by rfl) T.f_len (by rfl) T.f_set (pv 4)) (pe_callB call_len_seq (by rfl) T.f_len (by decide +kernel) (pa_cons (pv 4) pa_nil)))) (pw_or1 (pt_cmpR (op_inD hu6) (pv 5) (pv 2) (by rfl))))).pt pss_never pss_nil) <|
        pss_one (ps_expr (pe_bm PySem.F.plainAttrs_list PySem.F.slot_list_append PySem.F.type_list_append mt_append (pv 2) (pa_cons (pv 5) pa_nil)))) <|
      pss_one (ps_ret (pe_callB (cr_sortedDat hr.units) (by rfl) T.f_sorted (by decide +kernel) (pa_cons (pv 2) pa_nil))), ?_⟩
    have lus : us.length = Bs.length := (Paired.length pu).trans (Paired.length pL)
    have posB : 0 < Bs.length := List.length_pos_iff.mpr neB
    refine ⟨_, rfl, ll, us, rfl, .inl hll, _, _, rfl, rfl, _, rfl, ifF (decide_eq_false (by omega)) ?_⟩
    refine ⟨by rw [sizeLine_eq]; simp, fun f hf => ?_⟩
    have s1 : Same H (upd H f (.lst [])) := same_new hf
    refine ⟨_, rfl, ll, us, rfl, same_seqL s1 hll, ?_⟩
    refine forE (fun j σ H1 => (∃ o3 o4 o5, σ = [some (.ref nl), some (.ref ll), some (.ref f), o3, o4, o5, none]) ∧ Same H H1 ∧ ∃ ws, H1 f = some (.lst ws) ∧ Paired (LotAt H1) ws (Bs.take j)) (fun j σ H1 p => same_seqL p.2.1 hll) ⟨⟨none, none, none, rfl⟩, s1, [], upd_same, .nil⟩ ?_ ?_
    · rintro σ H1 ⟨⟨o3, o4, o5, rfl⟩, s1, ws, hws, pws⟩
      rw [lus, List.take_length] at pws
      have lws : ws.length = Bs.length := Paired.length pws
      refine ⟨_, rfl, f, ws, Bs.map lotD, rfl, SqL.of hws, ?_, fun ys p pm hp => ?_⟩
      · by_cases h1 : ws.length ≤ 1
        · exact .inl h1
        · refine .inr ⟨lots_dp pws, fun d hd d' hd' => ?_, fun d hd => ?_, fun d hd => ?_⟩
          · obtain ⟨B, hB1, rfl⟩ := List.mem_map.mp hd
            obtain ⟨C, hC1, rfl⟩ := List.mem_map.mp hd'
            unfold lotD
            simp only [PySem.W.alike]
            exact strs_alike B C (by rw [(hB B hB1).2, (hB C hC1).2])
          · obtain ⟨B, hB1, rfl⟩ := List.mem_map.mp hd
            have : B ≠ [] := fun e => by
              have n0 : n = 0 := by rw [← (hB B hB1).2, e]; rfl
              have all : ∀ C ∈ Bs, C = [] := fun C hC => List.length_eq_zero_iff.mp (by rw [(hB C hC).2, n0])
              have : Bs.length ≤ 1 := by
                match Bs, ndB, all with
                | [], _, _ => simp
                | [_], _, _ => simp
                | a :: b :: r, ndB, all =>
                  have e1 := all a (by simp)
                  have e2 := all b (by simp)
                  subst e1; subst e2
                  simp at ndB
              omega
            obtain ⟨x, r, e⟩ := List.exists_cons_of_ne_nil this
            exact ⟨.str x, r.map PyData.str, by rw [e]; rfl⟩
          · obtain ⟨B, hB1, rfl⟩ := List.mem_map.mp hd
            have := lot_depth B
            omega
      · obtain ⟨Cs, hC, pC⟩ := paired_perm pws pm
        exact kk _ p ys Cs (same_put s1 (s1.free hp)) (s1.free hp) upd_same (Paired.imp (fun v l q => q.same (same_new hp)) pC) hC
    · rintro j v σ H1 T' hj ⟨⟨o3, o4, o5, rfl⟩, s1, ws, hws, pws⟩ hT N hN
      obtain ⟨L, hL, a, rfl, ha⟩ := paired_at pu hj
      obtain ⟨B, hBj, pLB⟩ := paired_at pL hL
      have hBm := List.mem_of_getElem? hBj
      obtain ⟨sB, _⟩ := hB B hBm
      have lL : L.length ≤ 14 := by rw [pLB.length_eq]; exact Nat.le_trans sB.length_le fewE
      have s2 : Same H1 (upd H1 T' (.tup [.int (j : Nat), .ref a])) := same_new hT
      refine ⟨T', _, rfl, SqT.of upd_same, rfl, _, _, rfl, _, _, rfl, rfl, ?_⟩
      refine ⟨_, rfl, a, L, rfl, SqL.of (s2 _ _ (s1 _ _ ha)), by omega, fun ys q pm srt hq => ⟨q, _, rfl, .inl ⟨SqL.of upd_same, fun t ht => ?_⟩⟩⟩
      have ey : ys = B := sorted_eq (pm.trans pLB) srt (sorted_sub sB srtE)
      subst ey
      have s3 : Same H1 (upd (upd H1 T' (.tup [.int (j : Nat), .ref a])) q (.lst (txs ys))) := same_put s2 (s2.free hq)
      have s4 : Same H1 (upd (upd (upd H1 T' (.tup [.int (j : Nat), .ref a])) q (.lst (txs ys))) t (.tup (txs ys))) := same_put s3 (s3.free ht)
      have ht4 : (upd (upd (upd H1 T' (.tup [.int (j : Nat), .ref a])) q (.lst (txs ys))) t (.tup (txs ys))) t = some (.tup (txs ys)) := upd_same
      generalize (upd (upd (upd H1 T' (.tup [.int (j : Nat), .ref a])) q (.lst (txs ys))) t (.tup (txs ys))) = H4 at *
      have s04 := s1.trans s4
      refine ⟨_, rfl, a, rfl, ⟨_, SqL.of (s04 _ _ ha)⟩, fun D hD => ?_⟩
      refine lcV (H0 := H4) (same_frm H4) (src_list fun H' r => SqL.of (r _ _ (s04 _ _ ha))) (fun _ => true) (fun _ => .bl true) (by simp; omega) (fun x => rfl) hD (same_new hD) ?_ ?_ ?_
      · intro m y H5 Qb hm r qq
        exact qq H5 (Same.refl _)
      · intro m y H5 Qv hm _ r qq
        obtain ⟨z, hz, rfl⟩ := txs_at hm
        have zE : z ∈ E := sB.subset (pLB.mem_iff.mp (List.mem_of_getElem? hz))
        refine ⟨_, rfl, _, rfl, nl, _, rfl, .inl (same_seqL (s04.trans r) hnl), rfl, flat_txs _, ?_⟩
        rw [if_neg (by decide), inV_txs, mem_t.mpr zE]
        exact qq H5 (Same.refl _)
      · intro H5 s5 hd5
        have eb : (picks (txs L).length fun _ => true).map (fun _ => V.bl true) = ((picks (txs L).length fun _ => true).map fun _ => true).map V.bl := by rw [List.map_map]; rfl
        rw [eb] at hd5
        have s05 := s04.trans s5
        refine ⟨D, _, rfl, SqL.of hd5, _, rfl, ?_⟩
        rw [show ((picks (txs L).length fun _ => true).map fun _ => true).all id = true from by rw [List.all_map, List.all_eq_true]; intro _ _; rfl]
        refine iteF ⟨_, rfl, a, L, rfl, SqL.of (s05 _ _ ha), pLB.nodup_iff.mpr (ndE.sublist sB), by omega, _, rfl, a, _, rfl, .inl (SqL.of (s05 _ _ ha)), _, _, rfl, rfl, _, rfl, ?_⟩
        refine ifF (decide_eq_false (by rw [List.length_map]; omega)) ?_
        have hws5 := (s4.trans s5) _ _ hws
        have pws5 := Paired.imp (fun v l q => LotAt.same (s4.trans s5) q) pws
        have okB : ∀ x ∈ ys, PyData.strOk x = true := fun x hx => hok x (sB.subset hx)
        refine ⟨_, rfl, _, rfl, lotD ys, (Bs.take j).map lotD, lot_dp ⟨t, rfl, s5 _ _ ht4⟩, .lst (SqL.of hws5) (lots_dp pws5), lot_shaped okB, lots_shaped (fun l hl x hx => hok x ((hB l (List.mem_of_mem_take hl)).1.subset hx)), _, rfl, ?_⟩
        rw [any_lots]
        refine ifF (decide_eq_false (not_in_take' ndB hBj)) ?_
        have lws : ws.length ≤ Bs.length := by rw [Paired.length pws, List.length_take]; omega
        refine ⟨_, rfl, .inl ⟨rfl, _, SqL.of hws5⟩, _, rfl, f, ws, _, rfl, rfl, hws5, by rw [sizeLine_eq]; omega, ?_⟩
        have lot6 : ∀ v l, LotAt H5 v l → LotAt (upd H5 f (.lst (ws ++ [.ref t]))) v l := fun v l ⟨b, e, h⟩ => ⟨b, e, by rw [upd_ne (fun z => by rw [z, hws5] at h; cases h)]; exact h⟩
        refine hN _ _ ⟨⟨_, _, _, rfl⟩, same_put s05 hf, _, upd_same, ?_⟩
        rw [take_snoc hBj]
        exact Paired.snoc (Paired.imp lot6 pws5) (lot6 _ _ ⟨t, rfl, s5 _ _ ht4⟩)
end
end BF
set_option Elab.async false
set_option linter.all false
set_option maxRecDepth 100000
set_option maxHeartbeats 4000000
/-! listed. -/
namespace BF
open PySem PySem.Spec PyProof.Rows L2
abbrev lotsK (Cs : List (List Str)) : List (List Key × V) := Cs.map fun C => (keyL C, V.bl true)
theorem lotsK_none {Cs : List (List Str)} {C : List Str} (h : C ∉ Cs) : valV (lotsK Cs) (keyL C) = none := by
  apply valV_keys
  rw [List.map_map]
  intro q
  obtain ⟨D, hD, e⟩ := List.mem_map.mp q
  exact h (keyL_inj e ▸ hD)
theorem lotsK_some {C : List Str} : ∀ {Cs : List (List Str)}, C ∈ Cs → valV (lotsK Cs) (keyL C) = some (.bl true)
  | D :: Cs, h => by
    by_cases e : D = C
    · subst e; exact valV_pos rfl
    · show valV ((keyL D, V.bl true) :: lotsK Cs) _ = _
      rw [valV_neg (fun z => e (keyL_inj z))]
      rcases List.mem_cons.mp h with rfl | h
      · exact absurd rfl e
      · exact lotsK_some h
def spListed (K : PySem.W.Frag) : Sp := fun vs H Q _ => ∃ (Γ : Gh) (tl ll : Addr) (E : List Str) (r : List Str → Nat) (us : List V) (Ls Bs : List (List Str)), vs = [.ref tl, .ref ll] ∧ SqL K H tl (txs E) ∧ SqL K H ll us ∧ Paired (ListU H) us Ls ∧ Paired (fun L B => L.Perm B) Ls Bs ∧ Bs.Nodup ∧ Bs ≠ [] ∧ Bs.length ≤ 1000 ∧
  Mat E r ∧ Bases E r Bs ∧ sortedS E = true ∧ E.length ≤ 7 ∧ (∀ x ∈ E, good x = true) ∧
  ∀ H' p (i : FInfo), NewFam K Γ H H' p i → i.E = E → i.r = r → i.dep = 0 → Q (.ref p) H'
theorem sc_listed : FnScope ["things", "lots", "names", "found", "known", "one", "other", "thing", "lot", "y"] ["things", "lots"] (defScope s_listed) := ⟨rfl, rfl, rfl, by decide +kernel, rfl, by decide +kernel, by decide +kernel⟩
section
variable {P : Program} {w : World} {K : PySem.W.Frag} {mg : Str → Option Value} {base : Heap}
theorem ok_listed (T : TX K mg) : FOk P w K mg base 3 ("listed", none) ["things", "lots"] (spListed K) := by
  refine T.fn 17 (d := d_listed) rfl rfl rfl sc_listed (fun vs H Q E h => ?_) (fun _ _ _ _ _ _ us hl => match us, hl with | [_, _], _ => rfl) (fun cdv A outer s H vs Q E hr h => ?_)
  · obtain ⟨Γ, tl, ll, E, r, us, Ls, Bs, rfl, _⟩ := h; rfl
  · obtain ⟨Γ, tl, ll, E, r, us, Ls, Bs, rfl, htl, hll, pu, pL, ndB, neB, lB, m, bas, srtE, l7, gE, kk⟩ := h
    have nd := sc_listed.nd
    have hu := hu_of hr
    obtain ⟨t2, hM⟩ := T.c_MOST_TOLD
    refine ⟨_, pss_cons (ps_set (i := 2) nd rfl (Or.inl rfl) (pe_cl (ok_need_things T) hr T.g_need_things (pa_cons (pv 0) (pa_cons (pe_glob (v := .int 10) (by rfl) hM ⟨_, rfl⟩) pa_nil)))) <|
      pss_cons (ps_set (i := 3) nd rfl (Or.inl rfl) (pe_cl (ok_need_bases T) (hr.mono (by omega)) T.g_need_bases (pa_cons (pv 2) (pa_cons (pv 1) pa_nil)))) <|
      pss_cons (ps_set (i := 4) nd rfl (Or.inr rfl) (pe_dcT hu (own := [("lot", 8)]) (g := gName 8) rfl nd (pi_list (pv 3)) (blkOk_by (N := ["things", "lots", "names", "found", "known", "one", "other", "thing", "lot", "y"]) (sc := defScope s_listed) (by decide +kernel)) (fun _ _ _ _ _ => pg_name (i := 8) nd rfl (Or.inl rfl)) (fun _ _ _ _ _ => pts_nil) (fun _ _ _ _ _ => pv 8) (fun _ _ _ _ _ => pe_bl))) <|
      pss_cons (ps_for PassesOwn.never rfl (pi_list (pv 3)) (pg_name (i := 5) nd rfl (Or.inr rfl)) <|
        pss_one <| ps_for PassesOwn.never rfl (pi_list (pv 3)) (pg_name (i := 6) nd rfl (Or.inl rfl)) <|
          pss_one <| ps_for PassesOwn.never rfl (pi_tup (pe_cl (ok_less T) (hr.mono (by omega)) T.g_less (pa_cons (pv 5) (pa_cons (pv 6) pa_nil)))) (pg_name (i := 7) nd rfl (Or.inr rfl)) <|
            pss_one <| ps_if (pt_not (pt_val (pe_callB (cr_any rfl) (by rfl) T.f_any (by decide +kernel) (pa_cons
              (pe_lc (own := [("y", 9)]) (g := gName 9) rfl nd (pi_tup (pe_cl (ok_less T) (hr.mono (by omega)) T.g_less (pa_cons (pv 6) (pa_cons (pv 5) pa_nil)))) (blkOk_by (N := ["things", "lots", "names", "found", "known", "one", "other", "thing", "lot", "y"]) (sc := defScope s_listed) (by decide +kernel)) (fun _ _ _ _ _ => pg_name (i := 9) nd rfl (Or.inl rfl)) (fun _ _ _ _ _ => pts_nil)
                (fun _ _ _ _ _ => pe_cmp (pc_din hu (pe_cl (ok_changes T) hr T.g_changes (pa_cons (pv 5) (pa_cons (pv 7) (pa_cons (pv 9) pa_nil)))) (pv 4)))) pa_nil)))) pss_never pss_nil) <|
      pss_one (ps_ret (pe_mk T.mk_Family (ok_Family_init T) hr T.g_Family (pa_cons (pv 2) (pa_cons (pe_mk T.mk_Listed (ok_Listed_init T) hr T.g_Listed (pa_cons (pv 3) pa_nil)) pa_nil)))), ?_⟩
    have ndE := m.nd
    have hok : ∀ x ∈ E, PyData.strOk x = true := fun x hx => good_ok (gE x hx)
    have hB : ∀ B ∈ Bs, B.Sublist E ∧ B.length = rho E r full := fun B hb => ⟨bas.sub B hb, bas.top B hb⟩
    refine ⟨_, rfl, tl, E, 10, rfl, htl, by omega, by omega, ndE, gE, fun ys H1 nl s1 hnl pm srt hnl1 => ?_⟩
    have ey : ys = E := sorted_eq pm srt srtE
    subst ey
    refine ⟨_, rfl, _, rfl, nl, ll, ys, us, Ls, Bs, rho ys r full, rfl, SqL.of hnl1, same_seqL s1 hll, Paired.imp (fun v l ⟨a, e, h⟩ => ⟨a, e, s1 _ _ h⟩) pu, pL, ndB, neB, lB, hB, ndE, srtE, by omega, hok, fun H2 f ws Cs s2 hf hf2 pws pmC => ?_⟩
    have ndC : Cs.Nodup := pmC.nodup_iff.mpr ndB
    have lC : Cs.length ≤ 1000 := by rw [pmC.length_eq]; exact lB
    have lws : ws.length = Cs.length := Paired.length pws
    have s02 := s1.trans s2
    refine ⟨_, rfl, f, rfl, ⟨_, SqL.of hf2⟩, fun D hD => ?_⟩
    refine ⟨fun j mm H3 => mm = ws.length - j ∧ j ≤ ws.length ∧ Same H2 H3 ∧ H3 D = some (.dT (lotsK (Cs.take j))), ⟨_, rfl, Nat.zero_le _, same_new hD, upd_same⟩, ?_⟩
    rintro j mm H3 ⟨rfl, hj, s3, hD3⟩
    by_cases hlt : j < ws.length
    · refine .inr ⟨⟨_, _, SqL.of (s3 _ _ hf2), List.getElem?_eq_getElem hlt⟩, fun H' => Same H2 H' ∧ H' D = some (.dT (lotsK (Cs.take (j + 1)))), fun H' q => ⟨ws.length - (j + 1), by omega, rfl, hlt, q⟩, fun x H' yy => ?_⟩
      obtain ⟨e, hx⟩ := yy
      subst e
      have hx := hx _ (SqL.of (s3 _ _ hf2))
      obtain ⟨C, hC, b, rfl, hb⟩ := paired_at pws hx
      refine ⟨rfl, yesI ?_⟩
      have hb3 := s3 _ _ hb
      refine ⟨_, rfl, lotsK (Cs.take j), b, keyL C, rfl, by rw [keyL_kV]; exact hb3, hD3, by rw [List.length_map, List.length_take, sizeLine_eq]; omega, same_put s3 hD, ?_⟩
      rw [upd_same, putK_new _ (lotsK_none (not_in_take' ndC hC)), take_snoc hC]
      exact congrArg (fun z => some (HO.dT z)) (List.map_append (f := fun C => (keyL C, V.bl true)) (l₁ := Cs.take j) (l₂ := [C])).symm
    · have e : j = ws.length := by omega
      subst e
      rw [lws, List.take_length] at hD3
      refine .inl ⟨⟨_, SqL.of (s3 _ _ hf2), Nat.le_refl _⟩, ?_⟩
      have s03 := s02.trans s3
      have hf3 := s3 _ _ hf2
      have pws3 := Paired.imp (fun v l q => LotAt.same s3 q) pws
      refine ⟨_, rfl, f, rfl, ⟨_, SqL.of hf3⟩, ?_⟩
      refine forJ (R := Same) (H0 := H3) (src_list fun H' r => SqL.of (r _ _ hf3)) (fun j σ H4 => (∃ o5 o6 o7 o8 o9, σ = [some (.ref tl), some (.ref ll), some (.ref nl), some (.ref f), some (.ref D), o5, o6, o7, o8, o9]) ∧ Same H3 H4) (fun j σ H4 p => p.2) ⟨⟨_, _, _, _, _, rfl⟩, Same.refl _⟩ ?_ ?_
      · rintro σ H4 ⟨⟨o5, o6, o7, o8, o9, rfl⟩, s4⟩
        refine ⟨_, rfl, _, rfl, fun sx sdx hsx hsdx hsne => ?_⟩
        refine ⟨sx, sdx, f, rfl, upd_same, fun H5 ex5 ho5 => ⟨rfl, ?_⟩⟩
        have s5 : Same H4 H5 := ex5.made hsx hsdx
        intro x dx hx hdx hne
        have s45 := s4.trans s5
        have hnl5 := s45 _ _ ((s2.trans s3) _ _ hnl1)
        refine ⟨x, dx, nl, sx, ys, rfl, upd_same, .inl (by rw [upd_ne (ne_of_none hnl5 hx), upd_ne (ne_of_none hnl5 hdx)]; exact hnl5), fun H6 nt d ex ho hnt hd hd0 => ⟨rfl, ?_⟩⟩
        refine kk H6 x ⟨nt, sx, d, ys, r, 0⟩ (fam_new (s03.trans s45) hx hdx ex ho hnt hd hd0 (fun s6 => .listed Cs ⟨⟨sdx, f, ws, s6 _ _ ho5, s6 _ _ (s45 _ _ hf3), Paired.imp (fun v l q => LotAt.same (s45.trans s6) q) pws3⟩, lC, fun e => neB (by rw [e] at pmC; exact pmC.symm.eq_nil)⟩ fun l hl => ?_) m srtE (by omega) gE) rfl rfl rfl
        obtain ⟨B, hB1, hB2⟩ := bas.some m hl
        exact ⟨⟨B, pmC.mem_iff.mpr hB1, hB2⟩, fun B hB => bas.none_more m hl (pmC.mem_iff.mp hB)⟩
      · rintro j1 v1 σ H4 hj1 ⟨⟨o5, o6, o7, o8, o9, rfl⟩, s4⟩ N hN
        obtain ⟨B, hB1, b, rfl, hb⟩ := paired_at pws3 hj1
        have hBm : B ∈ Bs := pmC.mem_iff.mp (List.mem_of_getElem? hB1)
        refine ⟨_, rfl, f, rfl, ⟨_, SqL.of (s4 _ _ hf3)⟩, ?_⟩
        refine forJ (R := Same) (H0 := H3) (src_list fun H' r => SqL.of (r _ _ hf3)) (fun j σ H5 => (∃ o6 o7 o8 o9, σ = [some (.ref tl), some (.ref ll), some (.ref nl), some (.ref f), some (.ref D), some (.ref b), o6, o7, o8, o9]) ∧ Same H3 H5) (fun j σ H5 p => p.2) ⟨⟨_, _, _, _, rfl⟩, s4⟩ ?_ ?_
        · rintro σ H5 ⟨⟨p6, p7, p8, p9, rfl⟩, s5⟩
          exact hN _ _ ⟨⟨_, _, _, _, _, rfl⟩, s5⟩
        · rintro j2 v2 σ H5 hj2 ⟨⟨p6, p7, p8, p9, rfl⟩, s5⟩ N2 hN2
          obtain ⟨C, hC1, c, rfl, hc⟩ := paired_at pws3 hj2
          have hCm : C ∈ Bs := pmC.mem_iff.mp (List.mem_of_getElem? hC1)
          have sub1 := bas.sub B hBm
          have sub2 := bas.sub C hCm
          have l1 := sub1.length_le
          have l2 := sub2.length_le
          refine ⟨_, rfl, _, rfl, b, c, B, C, rfl, SqT.of (s5 _ _ hb), SqT.of (s5 _ _ hc), by omega, fun H6 q s6 hq hq6 => ⟨q, rfl, ⟨_, SqT.of hq6⟩, ?_⟩⟩
          have s36 := s5.trans s6
          refine forJ (R := Same) (H0 := H6) (src_tup fun H' r => SqT.of (r _ _ hq6)) (fun j σ H7 => (∃ o7 o8 o9, σ = [some (.ref tl), some (.ref ll), some (.ref nl), some (.ref f), some (.ref D), some (.ref b), some (.ref c), o7, o8, o9]) ∧ Same H6 H7) (fun j σ H7 p => p.2) ⟨⟨_, _, _, rfl⟩, Same.refl _⟩ ?_ ?_
          · rintro σ H7 ⟨⟨q7, q8, q9, rfl⟩, s7⟩
            exact hN2 _ _ ⟨⟨_, _, _, _, rfl⟩, s36.trans s7⟩
          · rintro j3 v3 σ H7 hj3 ⟨⟨q7, q8, q9, rfl⟩, s7⟩ N3 hN3
            obtain ⟨x, hx, rfl⟩ := txs_at hj3
            obtain ⟨xB, xC⟩ := List.mem_filter.mp (List.mem_of_getElem? hx)
            have xnC : x ∉ C := fun h => by rw [mem_t.mpr h] at xC; cases xC
            have s37 := s36.trans s7
            refine ⟨_, rfl, _, rfl, c, b, C, B, rfl, SqT.of (s37 _ _ hc), SqT.of (s37 _ _ hb), by omega, fun H8 p s8 hp hp8 => ⟨p, rfl, ⟨_, SqT.of hp8⟩, fun M hM => ?_⟩⟩
            have s38 := s37.trans s8
            generalize hys : C.filter (fun x => !mem B x) = zs at hp8
            have zsm : ∀ z, z ∈ zs ↔ z ∈ C ∧ z ∉ B := fun z => by
              rw [← hys, List.mem_filter]
              exact ⟨fun h => ⟨h.1, fun q => by have := h.2; rw [mem_t.mpr q] at this; cases this⟩, fun h => ⟨h.1, by rw [mem_f.mpr h.2]; rfl⟩⟩
            have lz : zs.length ≤ 7 := by rw [← hys]; exact Nat.le_trans (List.length_filter_le _ _) (by omega)
            refine lcV (H0 := H8) (same_frm H8) (src_tup fun H' r => SqT.of (r _ _ hp8)) (fun _ => true) (fun j => .bl (decide (ys.filter (pin (pdel (mem B) x) (zs.getD j e0)) ∈ Cs))) (by simp; omega) (fun x => rfl) hM (same_new hM) ?_ ?_ ?_
            · intro j v H9 Qb hi r qq
              exact qq H9 (Same.refl _)
            · intro j v H9 Qv hi _ r qq
              obtain ⟨z, hz, rfl⟩ := txs_at hi
              obtain ⟨zC, zB⟩ := (zsm z).mp (List.mem_of_getElem? hz)
              have s39 := s38.trans r
              refine ⟨_, rfl, _, rfl, _, rfl, b, B, x, z, rfl, SqT.of (s39 _ _ hb), by omega, fun us2 H10 t s10 ht pmu srtu ht10 => ?_⟩
              have eu : us2 = ys.filter (pin (pdel (mem B) x) z) := by
                refine sorted_eq ?_ srtu (sorted_sub List.filter_sublist srtE)
                refine pmu.trans ?_
                have ndl : (z :: B.filter fun u => !mem [x] u).Nodup := List.nodup_cons.mpr ⟨fun q => zB (List.mem_filter.mp q).1, (ndE.sublist sub1).filter _⟩
                refine (List.perm_ext_iff_of_nodup ndl (ndE.filter _)).mpr fun u => ?_
                rw [List.mem_cons, List.mem_filter, List.mem_filter]
                constructor
                · rintro (rfl | ⟨h1, h2⟩)
                  · exact ⟨sub2.subset zC, pin_t.mpr (.inr rfl)⟩
                  · refine ⟨sub1.subset h1, pin_t.mpr (.inl (pdel_t.mpr ⟨mem_t.mpr h1, fun e => ?_⟩))⟩
                    rw [e, mem_t.mpr List.mem_cons_self] at h2; cases h2
                · rintro ⟨_, h⟩
                  rcases pin_t.mp h with h | h
                  · obtain ⟨h1, h2⟩ := pdel_t.mp h
                    exact .inr ⟨mem_t.mp h1, by rw [mem_f.mpr (fun q => h2 (List.mem_singleton.mp q))]; rfl⟩
                  · exact .inl h
              have s310 := s39.trans s10
              refine ⟨_, rfl, D, _, rfl, DGet.t (k := keyL us2) (s310 _ _ hD3) (by rw [keyL_kV]; exact ht10), ?_⟩
              have ev : (valV (lotsK Cs) (keyL us2)).isSome = decide (ys.filter (pin (pdel (mem B) x) (zs.getD j e0)) ∈ Cs) := by
                rw [getD_at (d := e0) hz, ← eu]
                by_cases h : us2 ∈ Cs
                · rw [lotsK_some h, decide_eq_true h]; rfl
                · rw [lotsK_none h, decide_eq_false h]; rfl
              rw [ev]
              exact qq H10 s10
            · intro H9 s9 hd9
              have eb : (picks (txs zs).length fun _ => true).map (fun j => V.bl (decide (ys.filter (pin (pdel (mem B) x) (zs.getD j e0)) ∈ Cs))) = (zs.map fun z => decide (ys.filter (pin (pdel (mem B) x) z) ∈ Cs)).map V.bl := by
                rw [List.length_map, picks_all, List.map_map]
                exact map_range' (fun z => V.bl (decide (ys.filter (pin (pdel (mem B) x) z) ∈ Cs))) e0 zs
              rw [eb] at hd9
              obtain ⟨y, yC, yB, yS⟩ := bas.swap m hBm hCm xB xnC
              have any : (zs.map fun z => decide (ys.filter (pin (pdel (mem B) x) z) ∈ Cs)).any id = true := by
                rw [List.any_map, List.any_eq_true]
                exact ⟨y, (zsm y).mpr ⟨yC, yB⟩, decide_eq_true (pmC.mem_iff.mpr yS)⟩
              refine ⟨M, _, rfl, SqL.of hd9, _, rfl, ?_⟩
              rw [any]
              exact iteF (hN3 _ _ ⟨⟨_, _, _, rfl⟩, s7.trans (s8.trans s9)⟩)
end
end BF
set_option Elab.async false
set_option linter.all false
set_option maxRecDepth 100000
set_option maxHeartbeats 4000000
/-! The law's well: source, draw, pick, shuffled. -/
namespace BF
open PySem PySem.Spec PyProof.Rows L2
def WellAt (H : Hp) (W : Addr) : Prop := ∃ a b c : Int, H W = some (.lst [.int a, .int b, .int c])
def spSource : Sp := fun vs H Q _ => ∃ n : Int, vs = [.int n] ∧ ∀ H' p, Same H H' → H p = none → WellAt H' p → Q (.ref p) H'
theorem sc_law_source : FnScope ["_law_cell", "_law_number"] ["_law_cell"] (defScope s_law_source) := ⟨rfl, rfl, rfl, by decide +kernel, rfl, by decide +kernel, by decide +kernel⟩
def spDraw : Sp := fun vs H Q _ => ∃ (W : Addr) (m : Int), vs = [.ref W, .int m] ∧ 0 < m ∧ m < 1073741824 ∧ WellAt H W ∧ ∀ H' (n : Nat), Exc W H H' → WellAt H' W → (n : Int) < m → Q (.int n) H'
theorem sc_law_draw : FnScope ["_law_well", "_law_many", "_law_found", "_law_number"] ["_law_well", "_law_many"] (defScope s_law_draw) := ⟨rfl, rfl, rfl, by decide +kernel, rfl, by decide +kernel, by decide +kernel⟩
theorem mod_nat {a b : Int} (h : 0 < b) : ∃ n : Nat, a % b = n ∧ (n : Int) < b := by
  refine ⟨(a % b).toNat, ?_, ?_⟩
  · rw [Int.toNat_of_nonneg (Int.emod_nonneg a (by omega))]
  · rw [Int.toNat_of_nonneg (Int.emod_nonneg a (by omega))]; exact Int.emod_lt_of_pos a h
theorem pos_a : (0 : Int) < 2147483629 := by omega
theorem pos_b : (0 : Int) < 2147483647 := by omega
theorem pos_c : (0 : Int) < 2147483587 := by omega
theorem pos_d : (0 : Int) < 2147483563 := by omega
theorem mod_rng {a b : Int} (h : 0 < b) (h2 : b < 2 ^ 64) : -(2 ^ 64) < a % b ∧ a % b < 2 ^ 64 := by
  have h3 := Int.emod_nonneg a (show b ≠ 0 by omega)
  have h4 := Int.emod_lt_of_pos a h
  omega
section
variable {P : Program} {w : World} {K : PySem.W.Frag} {mg : Str → Option Value} {base : Heap}
theorem ok_law_source (T : TX K mg) : FOk P w K mg base 1 ("_law_source", none) ["_law_cell"] spSource := by
  refine T.fn 48 (d := d_law_source) rfl rfl rfl sc_law_source (fun vs H Q E h => ?_) (fun _ _ _ _ _ _ us hl => match us, hl with | [_], _ => rfl) (fun cdv A outer s H vs Q E hr h => ?_)
  · obtain ⟨n, rfl, _⟩ := h; rfl
  · obtain ⟨n, rfl, kk⟩ := h
    have nd := sc_law_source.nd
    refine ⟨_, pss_cons (ps_set (i := 1) nd rfl (Or.inl rfl) (pe_ifExp (pt_cmp (pc_ge (pv 0) pe_int)) (pv 0) (pe_sub (pe_sub pe_int (pe_mul pe_int (pv 0))) pe_int))) <|
      pss_one (ps_ret (pe_lst (pa_cons (pe_op op_mul (pv 1) (pe_callTy call_int1 (by rfl) T.f_int (by decide +kernel) (pa_cons (pe_cmp (pc_ge (pv 1) (pe_op op_pow pe_int pe_int))) pa_nil))) (pa_cons (pe_op op_mod (pe_callTy call_int1 (by rfl) T.f_int (by decide +kernel) (pa_cons (pv 1) pa_nil)) pe_int) (pa_cons pe_int pa_nil))))), ?_⟩
    have go : ∀ v : Int, tRet (tLst (tCons (tOp (rI CMul fun i j => .int (i * j)) (tVar 1) (tCB (fun xs H Q => (∃ i, xs = [.int i] ∧ Q (.int i) H) ∨ ∃ k, xs = [.bl k] ∧ Q (.int (if k then 1 else 0)) H) (tCons (tGe (tVar 1) (tOp (rI CPow fun i j => .int (i ^ j.toNat)) (tC (.int 10)) (tC (.int 18)))) tNil)))
        (tCons (tOp (rI (fun _ j => 0 < j) fun i j => .int (i % j)) (tCB (fun xs H Q => (∃ i, xs = [.int i] ∧ Q (.int i) H) ∨ ∃ k, xs = [.bl k] ∧ Q (.int (if k then 1 else 0)) H) (tCons (tVar 1) tNil)) (tC (.int 2147483629))) (tCons (tC (.int 0)) tNil)))) { nx := fun _ H' => Q .non H', rt := Q } [some (.int n), some (.int v)] H := by
      intro v
      refine ⟨_, rfl, _, rfl, 10, 18, rfl, rfl, ⟨by decide, by decide, by decide⟩, _, _, rfl, rfl, .inr ⟨_, rfl, _, _, rfl, rfl, ?_, ?_⟩⟩
      · refine .inr ⟨?_, ?_⟩ <;> split <;> decide
      · refine ⟨_, rfl, .inl ⟨_, rfl, _, _, rfl, rfl, pos_a, by rw [sizeLine_eq]; simp, fun p hp => ?_⟩⟩
        exact kk _ p (same_new hp) hp ⟨_, _, _, upd_same⟩
    refine ⟨_, rfl, _, _, rfl, rfl, _, rfl, ?_⟩
    by_cases h : 0 ≤ n
    · exact ifT (decide_eq_true h) ⟨_, rfl, go n⟩
    · refine ifF (decide_eq_false h) ⟨_, rfl, _, _, rfl, rfl, ⟨by decide, by decide⟩, _, _, rfl, rfl, _, _, rfl, rfl, go _⟩
theorem ok_law_draw (T : TX K mg) : FOk P w K mg base 1 ("_law_draw", none) ["_law_well", "_law_many"] spDraw := by
  refine T.fn 49 (d := d_law_draw) rfl rfl rfl sc_law_draw (fun vs H Q E h => ?_) (fun _ _ _ _ _ _ us hl => match us, hl with | [_, _], _ => rfl) (fun cdv A outer s H vs Q E hr h => ?_)
  · obtain ⟨W, m, rfl, _⟩ := h; rfl
  · obtain ⟨W, m, rfl, hm0, hm1, ⟨a, b, c, hW⟩, kk⟩ := h
    have nd := sc_law_draw.nd
    refine ⟨_, pss_cons (ps_if (pt_cmp (pc_gt (pe_ix ix_list (pv 0) pe_int (fun _ _ => rfl)) pe_int))
        (pss_cons (ps_set (i := 2) nd rfl (Or.inl rfl) (pe_op op_mod (pe_callTy call_int1 (by rfl) T.f_int (by decide +kernel) (pa_cons (pe_ix ix_list (pv 0) pe_int (fun _ _ => rfl)) pa_nil)) (pv 1))) <|
         pss_cons (ps_asg (pe_op op_fdiv (pe_ix ix_list (pv 0) pe_int (fun _ _ => rfl)) (pv 1)) (pg_sub (pv 0) pe_int set_list)) <|
         pss_one (ps_ret (pv 2))) pss_nil) <|
      pss_cons (ps_asg (pe_add (pe_ix ix_list (pv 0) pe_int (fun _ _ => rfl)) pe_int) (pg_sub (pv 0) pe_int set_list)) <|
      pss_cons (ps_set (i := 3) nd rfl (Or.inl rfl) (pe_op op_mod (pe_callTy call_int1 (by rfl) T.f_int (by decide +kernel) (pa_cons (pe_op op_mul (pe_add (pe_add (pe_ix ix_list (pv 0) pe_int (fun _ _ => rfl)) (pe_mul pe_int (pe_ix ix_list (pv 0) pe_int (fun _ _ => rfl)))) pe_int) pe_int) pa_nil)) pe_int)) <|
      pss_cons (ps_set (i := 3) nd rfl (Or.inl rfl) (pe_op op_mod (pe_callTy call_int1 (by rfl) T.f_int (by decide +kernel) (pa_cons (pe_op op_mul (pv 3) (pe_add (pe_add (pe_op op_fdiv (pv 3) pe_int) pe_int) (pe_ix ix_list (pv 0) pe_int (fun _ _ => rfl)))) pa_nil)) pe_int)) <|
      pss_one (ps_ret (pe_op op_mod (pe_callTy call_int1 (by rfl) T.f_int (by decide +kernel) (pa_cons (pe_op op_fdiv (pe_op op_mod (pe_callTy call_int1 (by rfl) T.f_int (by decide +kernel) (pa_cons (pe_op op_mul (pv 3) (pe_add (pe_op op_fdiv (pv 3) pe_int) pe_int)) pa_nil)) pe_int) pe_int) pa_nil)) (pv 1))), ?_⟩
    refine ⟨_, rfl, W, _, 0, _, rfl, rfl, SqL.of hW, atI_nat (j := 0) rfl, _, _, rfl, rfl, _, rfl, ?_⟩
    by_cases h : 0 < a
    · refine ifT (decide_eq_true h) ?_
      refine ⟨_, rfl, W, _, 0, _, rfl, rfl, SqL.of hW, atI_nat (j := 0) rfl, .inl ⟨_, rfl, _, rfl, _, _, rfl, rfl, hm0, ?_⟩⟩
      refine ⟨_, rfl, W, _, 0, _, rfl, rfl, SqL.of hW, atI_nat (j := 0) rfl, _, rfl, _, _, rfl, rfl, ⟨hm0, hm1⟩, ?_⟩
      refine ⟨_, rfl, W, _, 0, 0, rfl, rfl, hW, rfl, ?_⟩
      obtain ⟨n, e, hn⟩ := mod_nat (a := a) hm0
      refine ⟨_, rfl, ?_⟩
      show Q (.int (a % m)) _
      rw [e]
      exact kk _ n Exc.refl.put ⟨_, _, _, upd_same⟩ hn
    · refine ifF (decide_eq_false h) ?_
      refine ⟨_, rfl, W, _, 2, _, rfl, rfl, SqL.of hW, atI_nat (j := 2) rfl, _, _, rfl, rfl, ?_⟩
      refine ⟨_, rfl, W, _, 2, 2, rfl, rfl, hW, rfl, ?_⟩
      have hW2 : upd H W (.lst ([V.int a, V.int b, V.int c].set 2 (V.int (c + 1)))) W = some (.lst [.int a, .int b, .int (c + 1)]) := upd_same
      have ex2 : Exc W H (upd H W (.lst ([V.int a, V.int b, V.int c].set 2 (V.int (c + 1))))) := Exc.refl.put
      generalize upd H W (.lst ([V.int a, V.int b, V.int c].set 2 (V.int (c + 1)))) = H2 at *
      refine ⟨_, rfl, W, _, 1, _, rfl, rfl, SqL.of hW2, atI_nat (j := 1) rfl, _, rfl, W, _, 2, _, rfl, rfl, SqL.of hW2, atI_nat (j := 2) rfl, _, _, rfl, rfl, ⟨by decide, by decide⟩, _, _, rfl, rfl, _, _, rfl, rfl, _, _, rfl, rfl, .inr ⟨by decide, by decide⟩, .inl ⟨_, rfl, _, _, rfl, rfl, pos_b, ?_⟩⟩
      refine ⟨_, rfl, _, rfl, _, _, rfl, rfl, ⟨by decide, by decide⟩, _, _, rfl, rfl, _, rfl, W, _, 2, _, rfl, rfl, SqL.of hW2, atI_nat (j := 2) rfl, _, _, rfl, rfl, _, _, rfl, rfl, .inl (mod_rng pos_b (by decide)), .inl ⟨_, rfl, _, _, rfl, rfl, pos_c, ?_⟩⟩
      refine ⟨_, rfl, _, rfl, _, _, rfl, rfl, ⟨by decide, by decide⟩, _, _, rfl, rfl, _, _, rfl, rfl, .inl (mod_rng pos_c (by decide)), .inl ⟨_, rfl, _, _, rfl, rfl, pos_d, _, _, rfl, rfl, ⟨by decide, by decide⟩, .inl ⟨_, rfl, _, rfl, _, _, rfl, rfl, hm0, ?_⟩⟩⟩
      obtain ⟨n, e, hn⟩ := mod_nat (a := ((((b + 104729 * (c + 1) + 11) * 48271 % 2147483647 * ((b + 104729 * (c + 1) + 11) * 48271 % 2147483647 / 1009 + 69621 + (c + 1)) % 2147483587) * (((b + 104729 * (c + 1) + 11) * 48271 % 2147483647 * ((b + 104729 * (c + 1) + 11) * 48271 % 2147483647 / 1009 + 69621 + (c + 1)) % 2147483587) / 2003 + 40692)) % 2147483563 / 3)) hm0
      have := kk H2 n ex2 ⟨_, _, _, hW2⟩ hn
      rw [← e] at this
      exact this
end
end BF
set_option Elab.async false
set_option linter.all false
set_option maxRecDepth 100000
set_option maxHeartbeats 4000000
/-! The law's well: pick, shuffled. -/
namespace BF
open PySem PySem.Spec PyProof.Rows L2
theorem WellAt.ne {H : Hp} {W p : Addr} {o : HO} (h : WellAt H W) (hp : H p = some o) (n : ∀ a b c : Int, o ≠ .lst [.int a, .int b, .int c]) : p ≠ W := fun e => by
  obtain ⟨a, b, c, h⟩ := h
  rw [e, h] at hp
  exact n a b c (Option.some.inj hp).symm
theorem WellAt.ne0 {H : Hp} {W p : Addr} (h : WellAt H W) (hp : H p = none) : p ≠ W := fun e => by
  obtain ⟨a, b, c, h⟩ := h
  rw [e, h] at hp; cases hp
/-- a step that leaves all but the well -/
structure Dr (W : Addr) (H H' : Hp) : Prop where
  ex : Exc W H H'
  at_ : WellAt H' W
theorem Dr.trans {W : Addr} {H H1 H2 : Hp} (a : Dr W H H1) (b : Dr W H1 H2) : Dr W H H2 := ⟨fun c o n h => b.ex c o n (a.ex c o n h), b.at_⟩
theorem Dr.of_same {W : Addr} {H H1 : Hp} (w : WellAt H W) (s : Same H H1) : Dr W H H1 := ⟨exc_of s, let ⟨a, b, c, h⟩ := w; ⟨a, b, c, s _ _ h⟩⟩
theorem Dr.refl {W : Addr} {H : Hp} (w : WellAt H W) : Dr W H H := .of_same w (Same.refl H)
theorem Dr.put {W p : Addr} {H H1 : Hp} {o : HO} (w : WellAt H W) (d : Dr W H H1) (hp : H p = none) : Dr W H (upd H1 p o) := ⟨fun b u n e => by rw [upd_ne (ne_of_none e hp)]; exact d.ex b u n e, let ⟨a, b, c, h⟩ := d.at_; ⟨a, b, c, by rw [upd_ne (Ne.symm (w.ne0 hp))]; exact h⟩⟩
theorem Dr.free {W p : Addr} {H H1 : Hp} (d : Dr W H H1) (w : WellAt H W) (h : H1 p = none) : H p = none := by
  cases e : H p with
  | none => rfl
  | some o =>
    have := d.ex p o (d.at_.ne0 h) e
    rw [h] at this; cases this
theorem dr_frm {W : Addr} {H : Hp} (w : WellAt H W) : Frm (Dr W) H := ⟨.refl w, fun a b => a.trans b, fun a h => a.put w h, fun a b h0 h => b.ex _ _ (w.ne0 h0) h⟩
theorem perm_erase {v : V} : ∀ {rs : List V} {n : Nat}, rs[n]? = some v → ([v] ++ rs.eraseIdx n).Perm rs
  | x :: rs, 0, h => by cases h; exact List.Perm.refl _
  | x :: rs, n + 1, h => by
    rw [List.getElem?_cons_succ] at h
    exact (List.Perm.swap x v _).trans ((perm_erase h).cons x)
theorem seq_nat {n m : Nat} (h : n < m) : seqIndex? (n : Int) m = some n := by
  have e : ixN m (n : Int) = some n := by
    unfold ixN
    rw [if_pos (by omega), if_pos (by omega)]
    rfl
  exact (ixN_seq e).1
def spPick (K : PySem.W.Frag) : Sp := fun vs H Q _ => ∃ (W : Addr) (x : V), vs = [.ref W, x] ∧ WellAt H W ∧
  ((∃ z : Str, x = .str z ∧ 1 ≤ z.length ∧ z.length ≤ 1000 ∧ ∀ H' c, Dr W H H' → c ∈ z.cps.toList → Q (.str ⟨#[c]⟩) H') ∨
   (∃ (l : Addr) (xs : List Str), x = .ref l ∧ H l = some (.lst (txs xs)) ∧ 1 ≤ xs.length ∧ xs.length ≤ 1000 ∧ ∀ H' y, Dr W H H' → y ∈ xs → Q (.str y) H'))
theorem sc_law_pick : FnScope ["_law_well", "_law_some"] ["_law_well", "_law_some"] (defScope s_law_pick) := ⟨rfl, rfl, rfl, by decide +kernel, rfl, by decide +kernel, by decide +kernel⟩
def spShuffled (K : PySem.W.Frag) : Sp := fun vs H Q _ => ∃ (W l : Addr) (xs : List V), vs = [.ref W, .ref l] ∧ WellAt H W ∧ (SqL K H l xs ∨ SqT K H l xs) ∧ xs.length ≤ 1000 ∧
  ∀ H' p ys, Dr W H H' → H p = none → H' p = some (.lst ys) → ys.Perm xs → Q (.ref p) H'
theorem sc_law_shuffled : FnScope ["_law_well", "_law_some", "_law_rest", "_law_found", "_law_k"] ["_law_well", "_law_some"] (defScope s_law_shuffled) := ⟨rfl, rfl, rfl, by decide +kernel, rfl, by decide +kernel, by decide +kernel⟩
section
variable {P : Program} {w : World} {K : PySem.W.Frag} {mg : Str → Option Value} {base : Heap}
theorem ok_law_pick (T : TX K mg) : FOk P w K mg base 2 ("_law_pick", none) ["_law_well", "_law_some"] (spPick K) := by
  refine T.fn 50 (d := d_law_pick) rfl rfl rfl sc_law_pick (fun vs H Q E h => ?_) (fun _ _ _ _ _ _ us hl => match us, hl with | [_, _], _ => rfl) (fun cdv A outer s H vs Q E hr h => ?_)
  · obtain ⟨W, x, rfl, _⟩ := h; rfl
  · obtain ⟨W, x, rfl, hW, h⟩ := h
    have nd := sc_law_pick.nd
    refine ⟨_, pss_one (ps_ret (pe_ix ix_seq (pv 1) (pe_cl (ok_law_draw T) hr T.g_law_draw (pa_cons (pv 0) (pa_cons (pe_callB call_len (by rfl) T.f_len (by decide +kernel) (pa_cons (pv 1) pa_nil)) pa_nil))) (fun _ _ => rfl))), ?_⟩
    rcases h with ⟨z, rfl, h1, h2, kk⟩ | ⟨l, xs, rfl, hl, h1, h2, kk⟩
    · refine ⟨_, rfl, _, rfl, _, rfl, _, z.length, rfl, ⟨by rw [sizeLine_eq]; omega, rfl⟩, W, (z.length : Int), rfl, by omega, by omega, hW, fun H1 n ex w1 hn => ?_⟩
      obtain ⟨c, hc⟩ : ∃ c, z.cps.toList[n]? = some c := ⟨_, List.getElem?_eq_getElem (by rw [Array.length_toList]; show n < z.length; omega)⟩
      exact .inr (.inr ⟨z, (n : Int), c, rfl, rfl, by rw [sizeLine_eq]; omega, atI_nat hc, kk H1 c ⟨ex, w1⟩ (List.mem_of_getElem? hc)⟩)
    · have lW : l ≠ W := hW.ne hl fun a b c e => by
        injection e with e
        match xs, h1 with
        | x :: xs, _ => injection e with e _; cases e
      refine ⟨_, rfl, _, rfl, _, rfl, _, (txs xs).length, rfl, .inl ⟨_, SqL.of hl, rfl⟩, W, ((txs xs).length : Int), rfl, by simp; omega, by simp; omega, hW, fun H1 n ex w1 hn => ?_⟩
      rw [List.length_map] at hn
      obtain ⟨y, hy⟩ : ∃ y, xs[n]? = some y := ⟨_, List.getElem?_eq_getElem (by omega)⟩
      exact .inl ⟨l, txs xs, (n : Int), .str y, rfl, rfl, SqL.of (ex _ _ lW hl), atI_nat (by rw [List.getElem?_map, hy]; rfl), kk H1 y ⟨ex, w1⟩ (List.mem_of_getElem? hy)⟩
theorem ok_law_shuffled (T : TX K mg) : FOk P w K mg base 2 ("_law_shuffled", none) ["_law_well", "_law_some"] (spShuffled K) := by
  refine T.fn 52 (d := d_law_shuffled) rfl rfl rfl sc_law_shuffled (fun vs H Q E h => ?_) (fun _ _ _ _ _ _ us hl => match us, hl with | [_, _], _ => rfl) (fun cdv A outer s H vs Q E hr h => ?_)
  · obtain ⟨W, l, xs, rfl, _⟩ := h; rfl
  · obtain ⟨W, l, xs, rfl, hW, hl, hz, kk⟩ := h
    have nd := sc_law_shuffled.nd
    refine ⟨_, pss_cons (ps_par (i := 2) (j := 3) rfl nd rfl rfl (by decide) rfl rfl (pa_cons (pe_callTy call_list_of (by rfl) T.f_list (by decide +kernel) (pa_cons (pv 1) pa_nil)) (pa_cons (pe_lst pa_nil) pa_nil)) rfl) <|
      pss_cons (ps_for PassesOwn.never rfl (pi_range1 (by rfl) T.f_range (pa_cons (pe_callB call_len (by rfl) T.f_len (by decide +kernel) (pa_cons (pv 1) pa_nil)) pa_nil)) (pg_name (i := 4) nd rfl (Or.inl rfl)) <|
        pss_one (ps_expr (pe_bm PySem.F.plainAttrs_list PySem.F.slot_list_append PySem.F.type_list_append mt_append (pv 3) (pa_cons (pe_bm PySem.F.plainAttrs_list PySem.F.slot_list_pop PySem.F.type_list_pop mt_popAt (pv 2) (pa_cons (pe_cl (ok_law_draw T) hr T.g_law_draw (pa_cons (pv 0) (pa_cons (pe_callB call_len_seq (by rfl) T.f_len (by decide +kernel) (pa_cons (pv 2) pa_nil)) pa_nil))) pa_nil)) pa_nil)))) <|
      pss_one (ps_ret (pv 3)), ?_⟩
    refine ⟨_, rfl, l, xs, rfl, hl, fun r hr1 => ?_⟩
    refine ⟨by rw [sizeLine_eq]; simp, fun f hf => ⟨_, _, rfl, ?_⟩⟩
    have s1 : Same H (upd H r (.lst xs)) := same_new hr1
    have hfH := s1.free hf
    have s2 : Same H (upd (upd H r (.lst xs)) f (.lst [])) := same_put s1 hfH
    have rf : r ≠ f := fun e => by rw [← e, upd_same] at hf; cases hf
    have hr2 : (upd (upd H r (.lst xs)) f (.lst [])) r = some (.lst xs) := by rw [upd_ne rf, upd_same]
    have hf2 : (upd (upd H r (.lst xs)) f (.lst [])) f = some (.lst []) := upd_same
    have d2 := Dr.of_same hW s2
    have rW := hW.ne0 hr1
    have fW := hW.ne0 hfH
    generalize (upd (upd H r (.lst xs)) f (.lst [])) = H2 at *
    have hl2 : LenV K (.ref l) H2 xs.length := by
      rcases hl with h | h
      · exact .inl ⟨_, same_seqL s2 h, rfl⟩
      · exact .inr ⟨_, same_seqT s2 h, rfl⟩
    refine ⟨_, rfl, _, xs.length, rfl, hl2, _, rfl, by omega, by omega, ?_⟩
    rw [show ((xs.length : Nat) : Int).toNat = xs.length from rfl]
    refine forR xs.length (fun j σ H3 => (∃ o, σ = [some (.ref W), some (.ref l), some (.ref r), some (.ref f), o]) ∧ Dr W H H3 ∧ ∃ rs fs, H3 r = some (.lst rs) ∧ H3 f = some (.lst fs) ∧ rs.length + j = xs.length ∧ fs.length = j ∧ (fs ++ rs).Perm xs) ⟨⟨none, rfl⟩, d2, xs, [], hr2, hf2, rfl, rfl, List.Perm.refl _⟩ ?_ ?_
    · rintro σ H3 ⟨⟨o, rfl⟩, d3, rs, fs, h1, h2, h3, h4, h5⟩
      have : rs = [] := List.length_eq_zero_iff.mp (by omega)
      rw [this, List.append_nil] at h5
      exact ⟨_, rfl, kk H3 f fs d3 hfH h2 h5⟩
    · rintro j σ H3 hj ⟨⟨o, rfl⟩, d3, rs, fs, h1, h2, h3, h4, h5⟩ N hN
      refine ⟨_, rfl, .inl ⟨rfl, _, SqL.of h2⟩, _, rfl, .inl ⟨rfl, _, SqL.of h1⟩, _, rfl, _, rfl, r, rs, rfl, .inl (SqL.of h1), ?_⟩
      refine ⟨W, (rs.length : Int), rfl, by omega, by omega, d3.at_, fun H4 n ex4 w4 hn => ?_⟩
      have h14 := ex4 _ _ rW h1
      have h24 := ex4 _ _ fW h2
      obtain ⟨v, hv⟩ : ∃ v, rs[n]? = some v := ⟨_, List.getElem?_eq_getElem (by omega)⟩
      refine ⟨r, rs, (n : Int), n, v, rfl, rfl, h14, by omega, by omega, seq_nat (by omega), hv, ?_⟩
      refine ⟨f, fs, v, rfl, rfl, by rw [upd_ne (Ne.symm rf)]; exact h24, by rw [sizeLine_eq]; omega, ?_⟩
      have d4 : Dr W H H4 := d3.trans ⟨ex4, w4⟩
      refine hN _ _ ⟨⟨_, rfl⟩, (d4.put hW hr1).put hW hfH, rs.eraseIdx n, fs ++ [v], by rw [upd_ne rf, upd_same], upd_same, ?_, by simp; omega, ?_⟩
      · have := List.length_eraseIdx_of_lt (l := rs) (i := n) (by omega)
        omega
      · refine List.Perm.trans ?_ h5
        rw [List.append_assoc]
        exact (perm_erase hv).append_left fs
end
end BF
set_option Elab.async false
set_option linter.all false
set_option maxRecDepth 100000
set_option maxHeartbeats 4000000
/-! The law's names and webs. -/
namespace BF
open PySem PySem.Spec PyProof.Rows L2
def sgn (c : Nat) : Str := ⟨#[c]⟩
theorem sgn_good {c : Nat} (h : c ∈ letters.cps.toList) : good (sgn c) = true := by
  unfold good sgn
  have e1 : (⟨#[c]⟩ : Str).length = 1 := rfl
  rw [e1]
  simp
  exact Array.mem_toList_iff.mp h
theorem join_flat : ∀ cs : List Nat, (Txt.join (⟨#[]⟩ : Str) (cs.map sgn)).cps.toList = cs := by
  intro cs
  have e := TL.tl_join (⟨#[]⟩ : Str) (cs.map sgn)
  have e2 : (Txt.join (⟨#[]⟩ : Str) (cs.map sgn)).cps.toList = TL.joinL [] ((cs.map sgn).map TL.tl) := (congrArg TL.tl (TL.join_eq _ _)).trans e
  rw [e2, List.map_map]
  have go : ∀ cs : List Nat, TL.joinL [] (cs.map (TL.tl ∘ sgn)) = cs := by
    intro cs
    induction cs with
    | nil => rfl
    | cons c cs ih =>
      cases cs with
      | nil => rfl
      | cons d cs =>
        rw [List.map_cons] at ih ⊢
        rw [List.map_cons]
        show TL.tl (sgn c) ++ ([] ++ TL.joinL [] ((TL.tl ∘ sgn) d :: cs.map (TL.tl ∘ sgn))) = _
        rw [ih]; rfl
  exact go cs
theorem empty_str : ("" : Str) = ⟨#[]⟩ := by decide +kernel
theorem sum_sgn : ∀ cs : List Nat, ((cs.map sgn).map (·.length)).sum = cs.length
  | [] => rfl
  | c :: cs => by
    rw [List.map_cons, List.map_cons, List.sum_cons, sum_sgn cs, List.length_cons]
    have : (sgn c).length = 1 := rfl
    omega
theorem word_good {cs : List Nat} (h : ∀ c ∈ cs, c ∈ letters.cps.toList) (h1 : 1 ≤ cs.length) : good (cutS (Txt.join (⟨#[]⟩ : Str) (cs.map sgn)) none (some 8)) = true := by
  have e := join_flat cs
  have el : (Txt.join (⟨#[]⟩ : Str) (cs.map sgn)).length = cs.length := by
    show (Txt.join (⟨#[]⟩ : Str) (cs.map sgn)).cps.size = _
    rw [← Array.length_toList, e]
  have ec : (cutS (Txt.join (⟨#[]⟩ : Str) (cs.map sgn)) none (some 8)).cps.toList = cs.take (min 8 cs.length) := by
    unfold cutS
    rw [e, el, HT.sIx_none, show (some (8 : Int)) = some ((8 : Nat) : Int) from rfl, HT.sIx_nat]
    simp
  have el2 : (cutS (Txt.join (⟨#[]⟩ : Str) (cs.map sgn)) none (some 8)).length = min (min 8 cs.length) cs.length := by
    show (cutS (Txt.join (⟨#[]⟩ : Str) (cs.map sgn)) none (some 8)).cps.size = _
    rw [← Array.length_toList, ec, List.length_take]
  unfold good
  rw [ec, el2, Bool.and_eq_true, Bool.and_eq_true]
  refine ⟨⟨decide_eq_true (by omega), decide_eq_true (by omega)⟩, List.all_eq_true.mpr fun c hc => decide_eq_true (h c (List.mem_of_mem_take hc))⟩
theorem letters_nd : letters.cps.toList.Nodup := by decide +kernel
theorem letters_len : letters.cps.toList.length = 26 := by decide +kernel
theorem sgn_inj {a b : Nat} (h : sgn a = sgn b) : a = b := by
  unfold sgn at h
  injection h with h
  have := congrArg Array.toList h
  simpa using this
theorem all_letters {ns : List Str} (nd : ns.Nodup) (h : ∀ c ∈ letters.cps.toList, sgn c ∈ ns) : 26 ≤ ns.length := by
  have := sub_len nd (nd_map sgn _ letters_nd fun a _ b _ e => sgn_inj e) (fun x hx => by
    obtain ⟨c, hc, rfl⟩ := List.mem_map.mp hx
    exact h c hc)
  rw [List.length_map, letters_len] at this
  exact this
theorem sgns_of {H : Hp} : ∀ {is : List Nat} {us : List V}, Paired (fun _ v => ∃ c, v = V.str ⟨#[c]⟩ ∧ c ∈ letters.cps.toList) is us → ∃ cs : List Nat, us = (cs.map sgn).map V.str ∧ cs.length = is.length ∧ ∀ c ∈ cs, c ∈ letters.cps.toList
  | _, _, .nil => ⟨[], rfl, rfl, fun c h => by cases h⟩
  | _, _, .cons a t => by
    obtain ⟨cs, h1, h2, h3⟩ := sgns_of (H := H) t
    obtain ⟨c, e, hc⟩ := a
    refine ⟨c :: cs, by rw [e, h1]; rfl, by rw [List.length_cons, List.length_cons, h2], fun d hd => ?_⟩
    rcases List.mem_cons.mp hd with rfl | hd
    · exact hc
    · exact h3 d hd
def spNames (K : PySem.W.Frag) : Sp := fun vs H Q _ => ∃ (W : Addr) (m : Nat), vs = [.ref W, .int m] ∧ WellAt H W ∧ m ≤ 20 ∧
  ∀ H' p ns, Dr W H H' → H p = none → H' p = some (.lst (txs ns)) → ns.length = m → ns.Nodup → (∀ x ∈ ns, good x = true) → Q (.ref p) H'
theorem sc_law_names : FnScope ["_law_well", "_law_many", "_law_letters", "_law_found", "_law_k", "_law_word", "_law_j", "_law_letter"] ["_law_well", "_law_many"] (defScope s_law_names) := ⟨rfl, rfl, rfl, by decide +kernel, rfl, by decide +kernel, by decide +kernel⟩
section
variable {P : Program} {w : World} {K : PySem.W.Frag} {mg : Str → Option Value} {base : Heap}
theorem ok_law_names (T : TX K mg) : FOk P w K mg base 3 ("_law_names", none) ["_law_well", "_law_many"] (spNames K) := by
  refine T.fn 51 (d := d_law_names) rfl rfl rfl sc_law_names (fun vs H Q E h => ?_) (fun _ _ _ _ _ _ us hl => match us, hl with | [_, _], _ => rfl) (fun cdv A outer s H vs Q E hr h => ?_)
  · obtain ⟨W, m, rfl, _⟩ := h; rfl
  · obtain ⟨W, m, rfl, hW, hm, kk⟩ := h
    have nd := sc_law_names.nd
    refine ⟨_, pss_cons (ps_set (i := 2) nd rfl (Or.inr rfl) pe_str) <|
      pss_cons (ps_set (i := 3) nd rfl (Or.inl rfl) (pe_lst pa_nil)) <|
      pss_cons (ps_for PassesOwn.never rfl (pi_range1 (by rfl) T.f_range (pa_cons (pv 1) pa_nil)) (pg_name (i := 4) nd rfl (Or.inl rfl)) <|
        pss_cons (ps_set (i := 5) nd rfl (Or.inl rfl) (pe_slice sl_str (pe_bm PySem.F.plainAttrs_str PySem.F.slot_str_join PySem.F.type_str_join mt_join pe_str (pa_cons
          (pe_lc (own := [("_law_j", 6)]) (g := gName 6) rfl nd (pi_range1 (by rfl) T.f_range (pa_cons (pe_add pe_int (pe_op op_mul (pe_cl (ok_law_draw T) (hr.mono (by omega)) T.g_law_draw (pa_cons (pv 0) (pa_cons pe_int pa_nil))) (pe_cl (ok_law_draw T) (hr.mono (by omega)) T.g_law_draw (pa_cons (pv 0) (pa_cons pe_int pa_nil))))) pa_nil)) (blkOk_by (N := ["_law_well", "_law_many", "_law_letters", "_law_found", "_law_k", "_law_word", "_law_j", "_law_letter"]) (sc := defScope s_law_names) (by decide +kernel)) (fun _ _ _ _ _ => pg_name (i := 6) nd rfl (Or.inl rfl)) (fun _ _ _ _ _ => pts_nil)
            (fun _ _ _ _ _ => pe_cl (ok_law_pick T) hr T.g_law_pick (pa_cons (pv 0) (pa_cons (pv 2) pa_nil)))) pa_nil)) po_none (po_some pe_int))) <|
        pss_cons (ps_for PassesOwn.never rfl (pi_str (pv 2)) (pg_name (i := 7) nd rfl (Or.inl rfl)) <|
          pss_one <| ps_if (pw_and (pt_cmpR op_in_seq (pv 5) (pv 3) (by rfl)) (pw_and1 (pt_cmpR op_notIn_seq (pv 7) (pv 3) (by rfl)))).pt (pss_one (ps_set (i := 5) nd rfl (Or.inl rfl) (pv 7))) pss_nil) <|
        pss_one (ps_expr (pe_bm PySem.F.plainAttrs_list PySem.F.slot_list_append PySem.F.type_list_append mt_append (pv 3) (pa_cons (pv 5) pa_nil)))) <|
      pss_one (ps_ret (pv 3)), ?_⟩
    refine ⟨by rw [sizeLine_eq]; simp, fun f hf => ?_⟩
    have s1 : Same H (upd H f (.lst [])) := same_new hf
    have hf1 : upd H f (.lst []) f = some (.lst (txs [])) := upd_same
    have d1 := Dr.of_same hW s1
    have fW := hW.ne0 hf
    generalize upd H f (.lst []) = H1 at *
    refine ⟨_, rfl, _, rfl, by omega, by omega, ?_⟩
    rw [show ((m : Nat) : Int).toNat = m from rfl]
    refine forR m (fun j σ H3 => (∃ o4 o5 o7, σ = [some (.ref W), some (.int m), some (.str letters), some (.ref f), o4, o5, none, o7]) ∧ Dr W H H3 ∧ ∃ ns, H3 f = some (.lst (txs ns)) ∧ ns.length = j ∧ ns.Nodup ∧ ∀ x ∈ ns, good x = true) ⟨⟨none, none, none, rfl⟩, d1, [], hf1, rfl, List.nodup_nil, fun x h => by cases h⟩ ?_ ?_
    · rintro σ H3 ⟨⟨o4, o5, o7, rfl⟩, d3, ns, h1, h2, h3, h4⟩
      exact ⟨_, rfl, kk H3 f ns d3 hf h1 h2 h3 h4⟩
    · rintro j σ H3 hj ⟨⟨o4, o5, o7, rfl⟩, d3, ns, h1, h2, h3, h4⟩ N hN
      refine ⟨rfl, _, rfl, W, 3, rfl, by omega, by omega, d3.at_, fun H4 a ex4 w4 ha => ?_⟩
      refine ⟨_, rfl, W, 4, rfl, by omega, by omega, w4, fun H5 b ex5 w5 hb => ?_⟩
      have d5 : Dr W H3 H5 := (Dr.mk ex4 w4).trans ⟨ex5, w5⟩
      have ab : a * b ≤ 6 := by
        have h1 : a ≤ 2 := by omega
        have h2 : b ≤ 3 := by omega
        exact Nat.mul_le_mul h1 h2
      refine ⟨(a : Int), (b : Int), rfl, rfl, .inl ⟨by omega, by omega⟩, _, _, rfl, rfl, _, rfl, ?_, ?_, fun D hD => ?_⟩
      · have : ((a : Int) * (b : Int)) = ((a * b : Nat) : Int) := by push_cast; rfl
        omega
      · have : ((a : Int) * (b : Int)) = ((a * b : Nat) : Int) := by push_cast; rfl
        omega
      have ec : ((1 : Int) + (a : Int) * (b : Int)).toNat = 1 + a * b := by
        have : ((a : Int) * (b : Int)) = ((a * b : Nat) : Int) := by push_cast; rfl
        omega
      rw [ec]
      refine lcJ (H0 := H5) (dr_frm w5) (src_rng (n := 1 + a * b)) (fun _ => true) (fun _ _ v _ => ∃ c, v = V.str ⟨#[c]⟩ ∧ c ∈ letters.cps.toList) (by simp; omega) (fun _ _ _ _ _ h _ => h) (fun _ _ _ _ _ h _ => h) (fun x => rfl) hD (Dr.put w5 (.refl w5) hD) ?_ ?_ ?_
      · intro i x H6 Qb hi r q
        exact q H6 (.refl r.at_)
      · intro i x H6 Qv hi _ r q
        refine ⟨_, rfl, _, rfl, W, _, rfl, r.at_, .inl ⟨letters, rfl, by decide +kernel, by decide +kernel, fun H7 c d7 hc => ?_⟩⟩
        exact q _ H7 d7 ⟨c, rfl, hc⟩
      · intro H6 us d6 hD6 pus
        obtain ⟨cs, e1, e2, e3⟩ := sgns_of (H := H6) pus
        have lc : cs.length = 1 + a * b := by rw [e2, picks_all, List.length_range]; simp
        subst e1
        refine ⟨_, D, cs.map sgn, rfl, rfl, .inl (SqL.of hD6), ?_, ?_⟩
        · rw [sum_sgn, show (Str.ofString "").length = 0 from by decide +kernel, Nat.mul_zero, lc]; omega
        · have jl : (Txt.join ("" : Str) (cs.map sgn)).length = cs.length := by
            rw [empty_str]
            show (Txt.join (⟨#[]⟩ : Str) (cs.map sgn)).cps.size = _
            rw [← Array.length_toList, join_flat]
          refine ⟨8, rfl, _, rfl, by rw [jl, lc, sizeLine_eq]; omega, ?_⟩
          have wg : good (cutS (Txt.join ("" : Str) (cs.map sgn)) none (some 8)) = true := by rw [empty_str]; exact word_good e3 (by omega)
          generalize cutS (Txt.join ("" : Str) (cs.map sgn)) none (some 8) = word0 at *
          have d36 : Dr W H H6 := (d3.trans d5).trans d6
          have h16 := (d5.trans d6).ex _ _ fW h1
          refine ⟨_, rfl, letters, rfl, ?_⟩
          refine forJ (R := Same) (H0 := H6) (src_text (x := letters)) (fun i σ H7 => H7 = H6 ∧ ∃ word o7, σ = [some (.ref W), some (.int m), some (.str letters), some (.ref f), some (.int j), some (.str word), none, o7] ∧ good word = true ∧ (word ∉ ns ∨ ∀ c ∈ letters.cps.toList.take i, sgn c ∈ ns)) (fun i σ H7 p => by rw [p.1]; exact Same.refl _) ⟨rfl, word0, o7, rfl, wg, .inr fun c hc => by cases hc⟩ ?_ ?_
          · rintro σ H7 ⟨rfl, word, o7, rfl, hg, hw⟩
            have wn : word ∉ ns := by
              rcases hw with hw | hw
              · exact hw
              · have := all_letters h3 (fun c hc => hw c (by rw [List.length_map, List.take_length]; exact hc))
                omega
            refine ⟨_, rfl, .inl ⟨rfl, _, SqL.of h16⟩, _, rfl, f, txs ns, _, rfl, rfl, h16, by rw [List.length_map, sizeLine_eq]; omega, ?_⟩
            rw [txs_snoc]
            refine hN _ _ ⟨⟨_, _, _, rfl⟩, d36.put hW hf, ns ++ [word], upd_same, by simp [h2], ?_, fun x hx => ?_⟩
            · exact List.nodup_append.mpr ⟨h3, by simp, fun a ha b hb e => by
                have : b = word := by simpa using hb
                subst this; subst e; exact wn ha⟩
            · rcases List.mem_append.mp hx with hx | hx
              · exact h4 x hx
              · rw [List.mem_singleton.mp hx]; exact hg
          · rintro i v σ H7 hi ⟨rfl, word, o7, rfl, hg, hw⟩ N2 hN2
            rw [List.getElem?_map] at hi
            obtain ⟨c, hc, rfl⟩ := Option.map_eq_some_iff.mp hi
            have cl := List.mem_of_getElem? hc
            have tk : letters.cps.toList.take (i + 1) = letters.cps.toList.take i ++ [c] := take_snoc hc
            refine ⟨_, rfl, _, rfl, f, txs ns, rfl, .inl (SqL.of h16), rfl, flat_txs _, _, rfl, ?_⟩
            rw [if_neg (by decide), inV_txs]
            by_cases wn : word ∈ ns
            · refine ifT (mem_t.mpr wn) ⟨_, rfl, _, rfl, f, txs ns, rfl, .inl (SqL.of h16), rfl, flat_txs _, _, rfl, ?_⟩
              rw [if_pos rfl, inV_txs]
              by_cases cn : (⟨#[c]⟩ : Str) ∈ ns
              · refine ifF (by rw [mem_t.mpr cn]; rfl) (hN2 _ _ ⟨rfl, word, _, rfl, hg, .inr fun d hd => ?_⟩)
                rw [tk] at hd
                rcases List.mem_append.mp hd with hd | hd
                · rcases hw with hw | hw
                  · exact absurd wn hw
                  · exact hw d hd
                · rw [List.mem_singleton.mp hd]; exact cn
              · refine ifT (by rw [mem_f.mpr cn]; rfl) ⟨_, rfl, hN2 _ _ ⟨rfl, ⟨#[c]⟩, _, rfl, sgn_good cl, .inl cn⟩⟩
            · refine ifF (mem_f.mpr wn) (hN2 _ _ ⟨rfl, word, _, rfl, hg, .inl wn⟩)
end
end BF
set_option Elab.async false
set_option linter.all false
set_option maxRecDepth 100000
set_option maxHeartbeats 4000000
/-! All lots of so many things, in plain. -/
namespace BF
open PySem PySem.Spec PyProof.Rows L2
abbrev Lt (a b : Str) : Prop := a.cps.toList < b.cps.toList
theorem lt_tr {a b c : Str} (h1 : Lt a b) (h2 : Lt b c) : Lt a c := List.lt_trans h1 h2
theorem strict_of {l : List Str} (h : sortedS l = true) (nd : l.Nodup) : l.Pairwise Lt := by
  have h1 := sorted_pw h
  have h2 : l.Pairwise (· ≠ ·) := nd
  refine (h1.and h2).imp fun {a b} q => ?_
  exact tri _ _ q.1 (str_ne (Ne.symm q.2))
theorem strict_sorted {l : List Str} (h : l.Pairwise Lt) : sortedS l = true := pw_sorted (h.imp fun q => List.lt_asymm q)
theorem strict_nd {l : List Str} (h : l.Pairwise Lt) : l.Nodup := List.Pairwise.imp (fun {a b} q e => by
  rw [e] at q; exact List.lt_irrefl _ q) h
theorem sub_iff {E l : List Str} (sE : sortedS E = true) (nd : E.Nodup) : l.Sublist E ↔ l.Pairwise Lt ∧ ∀ x ∈ l, x ∈ E := by
  constructor
  · intro s
    exact ⟨(strict_of sE nd).sublist s, fun x hx => s.subset hx⟩
  · rintro ⟨h1, h2⟩
    have e : l = E.filter (mem l) := by
      refine sorted_eq ?_ (strict_sorted h1) (sorted_sub List.filter_sublist sE)
      refine (List.perm_ext_iff_of_nodup (strict_nd h1) (nd.filter _)).mpr fun x => ?_
      rw [List.mem_filter]
      exact ⟨fun h => ⟨h2 x h, mem_t.mpr h⟩, fun h => mem_t.mp h.2⟩
    rw [e]; exact List.filter_sublist
/-- may x come behind l -/
def ends (l : List Str) (x : Str) : Bool := match l.getLast? with
  | none => true
  | some z => decide (Lt z x)
def ext (E l : List Str) : List (List Str) := (E.filter (ends l)).map fun x => l ++ [x]
def combos (E : List Str) : Nat → List (List Str)
  | 0 => [[]]
  | m + 1 => (combos E m).flatMap (ext E)
theorem ends_iff {l : List Str} (h : l.Pairwise Lt) {x : Str} : ends l x = true ↔ ∀ z ∈ l, Lt z x := by
  unfold ends
  cases e : l.getLast? with
  | none =>
    have : l = [] := List.getLast?_eq_none_iff.mp e
    subst this
    simp
  | some z =>
    obtain ⟨m, rfl⟩ := List.getLast?_eq_some_iff.mp e
    simp only [decide_eq_true_eq]
    constructor
    · intro q y hy
      rcases List.mem_append.mp hy with hy | hy
      · exact lt_tr ((List.pairwise_append.mp h).2.2 y hy z List.mem_cons_self) q
      · rw [List.mem_singleton.mp hy]; exact q
    · intro q
      exact q z (List.mem_append_right _ List.mem_cons_self)
section
variable {E : List Str}
theorem combos_mem : ∀ {m : Nat} {l : List Str}, l ∈ combos E m ↔ l.Pairwise Lt ∧ (∀ x ∈ l, x ∈ E) ∧ l.length = m
  | 0, l => by
    constructor
    · intro h
      have : l = [] := List.mem_singleton.mp h
      subst this
      exact ⟨List.Pairwise.nil, fun x hx => (by cases hx), rfl⟩
    · rintro ⟨_, _, h⟩
      rw [List.length_eq_zero_iff.mp h]
      exact List.mem_cons_self
  | m + 1, l => by
    show l ∈ (combos E m).flatMap (ext E) ↔ _
    rw [List.mem_flatMap]
    constructor
    · rintro ⟨k, hk, hl⟩
      obtain ⟨p1, p2, p3⟩ := combos_mem.mp hk
      obtain ⟨x, hx, rfl⟩ := List.mem_map.mp hl
      obtain ⟨xE, xe⟩ := List.mem_filter.mp hx
      have := (ends_iff p1).mp xe
      refine ⟨List.pairwise_append.mpr ⟨p1, by simp, fun a ha b hb => ?_⟩, fun y hy => ?_, by simp [p3]⟩
      · rw [List.mem_singleton.mp hb]; exact this a ha
      · rcases List.mem_append.mp hy with hy | hy
        · exact p2 y hy
        · rw [List.mem_singleton.mp hy]; exact xE
    · rintro ⟨p1, p2, p3⟩
      have hne : l ≠ [] := fun e => by rw [e] at p3; simp at p3
      obtain ⟨k, x, rfl⟩ : ∃ k x, l = k ++ [x] := ⟨l.dropLast, l.getLast hne, (List.dropLast_concat_getLast hne).symm⟩
      obtain ⟨q1, _, q2⟩ := List.pairwise_append.mp p1
      refine ⟨k, combos_mem.mpr ⟨q1, fun y hy => p2 y (List.mem_append_left _ hy), by simpa using p3⟩, ?_⟩
      exact List.mem_map.mpr ⟨x, List.mem_filter.mpr ⟨p2 x (List.mem_append_right _ List.mem_cons_self), (ends_iff q1).mpr fun z hz => q2 z hz x List.mem_cons_self⟩, rfl⟩
theorem combos_nd (nd : E.Nodup) : ∀ m : Nat, (combos E m).Nodup
  | 0 => by simp [combos]
  | m + 1 => by
    show ((combos E m).flatMap (ext E)).Pairwise (· ≠ ·)
    rw [List.pairwise_flatMap]
    constructor
    · intro l _
      exact nd_map _ _ (nd.filter _) fun a _ b _ e => by simpa using e
    · refine List.Pairwise.imp (fun {a b} ne x hx y hy e => ?_) (combos_nd nd m)
      obtain ⟨u, _, rfl⟩ := List.mem_map.mp hx
      obtain ⟨v, _, rfl⟩ := List.mem_map.mp hy
      exact ne (List.append_inj_left' e rfl)
theorem combos_sub (sE : sortedS E = true) (nd : E.Nodup) {m : Nat} {l : List Str} : l ∈ combos E m ↔ l.Sublist E ∧ l.length = m := by
  rw [combos_mem, sub_iff sE nd, and_assoc]
theorem combos_len (sE : sortedS E = true) (nd : E.Nodup) (h7 : E.length ≤ 7) (m : Nat) : (combos E m).length ≤ 128 := by
  have := subs_count E (combos E m) (combos_nd nd m) fun l hl => ((combos_sub sE nd).mp hl).1
  have p : 2 ^ E.length ≤ 2 ^ 7 := Nat.pow_le_pow_right (by omega) h7
  omega
def allLots (E : List Str) : List (List Str) := (List.range (E.length + 1)).flatMap (combos E)
theorem all_mem (sE : sortedS E = true) (nd : E.Nodup) {l : List Str} : l ∈ allLots E ↔ l.Sublist E := by
  unfold allLots
  rw [List.mem_flatMap]
  constructor
  · rintro ⟨m, _, h⟩
    exact ((combos_sub sE nd).mp h).1
  · intro h
    exact ⟨l.length, List.mem_range.mpr (by have := h.length_le; omega), (combos_sub sE nd).mpr ⟨h, rfl⟩⟩
theorem all_nd (sE : sortedS E = true) (nd : E.Nodup) : (allLots E).Nodup := by
  show ((List.range (E.length + 1)).flatMap (combos E)).Pairwise (· ≠ ·)
  rw [List.pairwise_flatMap]
  refine ⟨fun m _ => combos_nd nd m, List.Pairwise.imp (fun {a b} ne x hx y hy e => ?_) (List.nodup_range (n := E.length + 1))⟩
  subst e
  exact ne (((combos_sub sE nd).mp hx).2.symm.trans ((combos_sub sE nd).mp hy).2)
theorem all_len (sE : sortedS E = true) (nd : E.Nodup) (h7 : E.length ≤ 7) : (allLots E).length ≤ 128 := by
  have := subs_count E (allLots E) (all_nd sE nd) fun l hl => (all_mem sE nd).mp hl
  have p : 2 ^ E.length ≤ 2 ^ 7 := Nat.pow_le_pow_right (by omega) h7
  omega
end
end BF
set_option Elab.async false
set_option linter.all false
set_option maxRecDepth 100000
set_option maxHeartbeats 4000000
/-! Own rules: the sum of two tuples, the first one empty or not. -/
namespace BF
open PySem PySem.Spec PyProof.Rows L2
section
variable {X : Cx}
def rCatT0 (K : PySem.W.Frag) : R2 := fun x y H Q => ∃ a b ys, x = .ref a ∧ y = .ref b ∧ SqT K H a [] ∧ SqT K H b ys ∧ Q (.ref b) H
theorem op_catT0 : OpR X (binaryOp .Add) (rCatT0 X.K) := by
  intro pins s σ H x y v u Q I rx ry h
  obtain ⟨a, b, ys, rfl, rfl, ha, hb, q⟩ := h
  cases rx
  cases ry
  obtain ⟨its, r1, p1, _⟩ := I.tuple ha
  obtain ⟨its2, r2, p2, _⟩ := I.tuple hb
  cases r1
  obtain ⟨⟨cls, dd, data, sl⟩, ho, hc, n, hd⟩ := id p1
  obtain ⟨⟨cls2, dd2, data2, sl2⟩, ho2, hc2, n2, hd2⟩ := id p2
  simp only at hc hd hc2 hd2
  subst hc hd hc2 hd2
  exact concat_meets ⟨_, ho, rfl⟩ ⟨_, ho2, rfl⟩ noFill_tuple_add seq_tuple_add PySem.F.slot_tuple_add PySem.F.entry_tuple_add (PySem.F.args_tuple_add_2 _ _)
      (tuple_addW0 a b ([] : List Value).toArray its2.toArray n n2 dd dd2 sl sl2 (by simp)) ⟨ho, ho2, .ref b, H, I, rfl, q⟩
def rCatA (K : PySem.W.Frag) : R2 := fun x y H Q => rCatT0 K x y H Q ∨ rCatT K x y H Q
theorem opCatA (K : PySem.W.Frag) (h : X.K = K := by rfl) : OpR X (binaryOp .Add) (rCatA K) := by
  subst h
  intro pins s σ H x y v u Q I rx ry h
  rcases h with h | h
  · exact op_catT0 pins s σ H x y v u Q I rx ry h
  · exact op_catT pins s σ H x y v u Q I rx ry h
theorem opEqD (K : PySem.W.Frag) (hu : X.A.units + 64 < cLine) (h : X.K = K := by rfl) : OpR X (compareOp .Eq) (rEqD K) := by subst h; exact op_eqD hu
end
end BF
set_option Elab.async false
set_option linter.all false
set_option maxRecDepth 100000
set_option maxHeartbeats 4000000
/-! The law's lots. -/
namespace BF
open PySem PySem.Spec PyProof.Rows L2
/-- things told by a list or by a dict's keys -/
def ThingsAt (K : PySem.W.Frag) (H : Hp) (t : Addr) (xs : List Str) : Prop := SqL K H t (txs xs) ∨ ∃ kvs : List (Key × V), H t = some (.dK kvs) ∧ kvs.map (·.1) = xs.map Sum.inr
theorem ThingsAt.same {K : PySem.W.Frag} {H H' : Hp} {t : Addr} {xs : List Str} (s : Same H H') (h : ThingsAt K H t xs) : ThingsAt K H' t xs := by
  rcases h with h | ⟨kvs, h, e⟩
  · exact .inl (same_seqL s h)
  · exact .inr ⟨kvs, s _ _ h, e⟩
section
variable {X : Cx}
/-- sorted(list of texts or dict with texts as keys) -/
def rSortedAny (K : PySem.W.Frag) : List V → Hp → VK → Prop := fun vs H Q => ∃ (a : Addr) (xs : List Str), vs = [V.ref a] ∧ ThingsAt K H a xs ∧ xs.length < 64 ∧
  ∀ (ys : List Str) (p : Addr), ys.Perm xs → sortedS ys = true → H p = none → Q (.ref p) (upd H p (.lst (ys.map V.str)))
theorem cr_sortedAny (hc : X.calm = true) : CallR X (.builtin "sorted") (rSortedAny X.K) := by
  intro pins s σ H vs us Q I r h
  obtain ⟨a, xs, rfl, ht, h64, q⟩ := h
  rcases ht with ht | ⟨kvs, ht, e⟩
  · exact cr_sortedS pins s σ H _ us Q I r ⟨a, xs, rfl, ht, h64, q⟩
  · exact call_sortedD hc pins s σ H _ us Q I r ⟨a, kvs, xs, rfl, .inl ht, e, h64, q⟩
/-- len of the same -/
def rLenAny (K : PySem.W.Frag) : List V → Hp → VK → Prop := fun vs H Q => ∃ (a : Addr) (xs : List Str), vs = [V.ref a] ∧ ThingsAt K H a xs ∧ Q (.int xs.length) H
theorem cr_lenAny : CallR X (.builtin "len") (rLenAny X.K) := by
  intro pins s σ H vs us Q I r h
  obtain ⟨a, xs, rfl, ht, q⟩ := h
  rcases ht with ht | ⟨kvs, ht, e⟩
  · exact call_len_seq pins s σ H _ us Q I r ⟨a, txs xs, rfl, .inl ht, by rw [List.length_map]; exact q⟩
  · have : kvs.length = xs.length := by
      have := congrArg List.length e
      rw [List.length_map, List.length_map] at this
      exact this
    exact call_lenD pins s σ H _ us Q I r ⟨a, kvs, rfl, ht, by rw [this]; exact q⟩
end
theorem flat_len {α β : Type} (f : α → List β) (n : Nat) : ∀ l : List α, (∀ a ∈ l, (f a).length ≤ n) → (l.flatMap f).length ≤ n * l.length
  | [], _ => by simp
  | a :: l, h => by
    have h1 := h a List.mem_cons_self
    have h2 := flat_len f n l fun b hb => h b (List.mem_cons_of_mem _ hb)
    rw [List.flatMap_cons, List.length_append, List.length_cons, Nat.mul_succ]
    omega
theorem paired_app {β γ : Type} {F : β → γ → Prop} : ∀ {xs xs' : List β} {ys ys' : List γ}, Paired F xs ys → Paired F xs' ys' → Paired F (xs ++ xs') (ys ++ ys')
  | _, _, _, _, .nil, h => h
  | _, _, _, _, .cons a t, h => .cons a (paired_app t h)
theorem paired_mapR {β γ δ : Type} {F : γ → δ → Prop} {g : β → δ} : ∀ {xs : List β} {ys : List γ}, Paired (fun x y => F y (g x)) xs ys → Paired F ys (xs.map g)
  | _, _, .nil => .nil
  | _, _, .cons a t => .cons a (paired_mapR t)
def spLots (K : PySem.W.Frag) : Sp := fun vs H Q _ => ∃ (t : Addr) (m : Nat) (xs E : List Str), vs = [.ref t, .int m] ∧ ThingsAt K H t xs ∧ xs.Perm E ∧ sortedS E = true ∧ E.Nodup ∧ E.length ≤ 7 ∧ (∀ x ∈ E, PyData.strOk x = true) ∧ m ≤ 100 ∧
  ∀ H' p us, Same H H' → H p = none → H' p = some (.lst us) → Paired (LotAt H') us (combos E m) → Q (.ref p) H'
theorem sc_law_lots : FnScope ["_law_things", "_law_many", "_law_found", "_law_k", "_law_longer", "_law_lot", "_law_thing"] ["_law_things", "_law_many"] (defScope s_law_lots) := ⟨rfl, rfl, rfl, by decide +kernel, rfl, by decide +kernel, by decide +kernel⟩
section
variable {P : Program} {w : World} {K : PySem.W.Frag} {mg : Str → Option Value} {base : Heap}
theorem ok_law_lots (T : TX K mg) : FOk P w K mg base 1 ("_law_lots", none) ["_law_things", "_law_many"] (spLots K) := by
  refine T.fn 53 (d := d_law_lots) rfl rfl rfl sc_law_lots (fun vs H Q E h => ?_) (fun _ _ _ _ _ _ us hl => match us, hl with | [_, _], _ => rfl) (fun cdv A outer s H vs Q E hr h => ?_)
  · obtain ⟨t, m, xs, E, rfl, _⟩ := h; rfl
  · obtain ⟨t, m, xs, E, rfl, ht, pm, sE, nd, h7, hok, hm, kk⟩ := h
    have ndN := sc_law_lots.nd
    refine ⟨_, pss_cons (ps_set (i := 2) ndN rfl (Or.inl rfl) (pe_lst (pa_cons (pe_tup pa_nil) pa_nil))) <|
      pss_cons (ps_for PassesOwn.never rfl (pi_range1 (by rfl) T.f_range (pa_cons (pv 1) pa_nil)) (pg_name (i := 3) ndN rfl (Or.inl rfl)) <|
        pss_cons (ps_set (i := 4) ndN rfl (Or.inl rfl) (pe_lst pa_nil)) <|
        pss_cons (ps_for PassesOwn.never rfl (pi_list (pv 2)) (pg_name (i := 5) ndN rfl (Or.inr rfl)) <|
          pss_one (ps_set (i := 4) ndN rfl (Or.inl rfl) (pe_op op_cat (pv 4) (pe_lc (own := [("_law_thing", 6)]) (g := gName 6) rfl ndN (pi_list (pe_callB (cr_sortedAny rfl) (by rfl) T.f_sorted (by decide +kernel) (pa_cons (pv 0) pa_nil))) (blkOk_by (N := ["_law_things", "_law_many", "_law_found", "_law_k", "_law_longer", "_law_lot", "_law_thing"]) (sc := defScope s_law_lots) (by decide +kernel)) (fun _ _ _ _ _ => pg_name (i := 6) ndN rfl (Or.inl rfl))
              (fun _ _ _ _ _ => pts_one (pw_or (pt_cmpR (opEqD K hr.units) (pv 5) (pe_tup pa_nil) (by rfl)) (pw_or1 (pt_cmpR op_gt_str (pv 6) (pe_ix (ixTup K) (pv 5) (pe_un un_neg pe_int) (fun _ _ => rfl)) (by rfl)))).pt) (fun _ _ _ _ _ => pe_op (opCatA K) (pv 5) (pe_tup (pa_cons (pv 6) pa_nil))))))) <|
        pss_one (ps_set (i := 2) ndN rfl (Or.inl rfl) (pv 4))) <|
      pss_one (ps_ret (pv 2)), ?_⟩
    refine ⟨by rw [sizeLine_eq]; simp, fun z hz => ⟨by rw [sizeLine_eq]; simp, fun f hf => ?_⟩⟩
    have s1 : Same H (upd H z (.tup [])) := same_new hz
    have s2 : Same H (upd (upd H z (.tup [])) f (.lst [.ref z])) := same_put s1 (s1.free hf)
    have zf : z ≠ f := fun e => by rw [← e, upd_same] at hf; cases hf
    have hz2 : (upd (upd H z (.tup [])) f (.lst [.ref z])) z = some (.tup []) := by rw [upd_ne zf, upd_same]
    have hf2 : (upd (upd H z (.tup [])) f (.lst [.ref z])) f = some (.lst [.ref z]) := upd_same
    have fH := s1.free hf
    generalize (upd (upd H z (.tup [])) f (.lst [.ref z])) = H2 at *
    refine ⟨_, rfl, _, rfl, by omega, by omega, ?_⟩
    rw [show ((m : Nat) : Int).toNat = m from rfl]
    refine forR m (fun k σ H3 => (∃ q o3 o4 o5, σ = [some (.ref t), some (.int m), some (.ref q), o3, o4, o5, none] ∧ H q = none ∧ ∃ us, H3 q = some (.lst us) ∧ Paired (LotAt H3) us (combos E k)) ∧ Same H H3) ⟨⟨f, none, none, none, rfl, fH, _, hf2, .cons ⟨z, rfl, hz2⟩ .nil⟩, s2⟩ ?_ ?_
    · rintro σ H3 ⟨⟨q, o3, o4, o5, rfl, hq, us, hus, pu⟩, s3⟩
      exact ⟨_, rfl, kk H3 q us s3 hq hus pu⟩
    · rintro k σ H3 hk ⟨⟨q, o3, o4, o5, rfl, hq, us, hus, pu⟩, s3⟩ N hN
      refine ⟨by rw [sizeLine_eq]; simp, fun g hg => ?_⟩
      have s4 : Same H3 (upd H3 g (.lst [])) := same_new hg
      have hg4 : upd H3 g (.lst []) g = some (.lst []) := upd_same
      have gH := s3.free hg
      generalize upd H3 g (.lst []) = H4 at *
      have hus4 := s4 _ _ hus
      have lus : us.length = (combos E k).length := Paired.length pu
      have l128 := combos_len sE nd h7 k
      refine ⟨_, rfl, q, rfl, ⟨_, SqL.of hus4⟩, ?_⟩
      refine forJ (R := Same) (H0 := H4) (src_list fun H' r => SqL.of (r _ _ hus4)) (fun j σ H5 => (∃ g o5, σ = [some (.ref t), some (.int m), some (.ref q), some (.int k), some (.ref g), o5, none] ∧ H g = none ∧ ∃ ws, H5 g = some (.lst ws) ∧ Paired (LotAt H5) ws (((combos E k).take j).flatMap (ext E))) ∧ Same H4 H5) (fun j σ H5 p => p.2) ⟨⟨g, o5, rfl, gH, [], hg4, by rw [List.take_zero]; exact .nil⟩, Same.refl _⟩ ?_ ?_
      · rintro σ H5 ⟨⟨g, o5, rfl, hgH, ws, hws, pw⟩, s5⟩
        rw [lus, List.take_length] at pw
        exact ⟨_, rfl, hN _ _ ⟨⟨g, _, _, _, rfl, hgH, ws, hws, pw⟩, s3.trans (s4.trans s5)⟩⟩
      · rintro j v σ H5 hj ⟨⟨g, o5, rfl, hgH, ws, hws, pw⟩, s5⟩ N2 hN2
        obtain ⟨l, hl, b, rfl, hb⟩ := paired_at pu hj
        have s05 := s3.trans (s4.trans s5)
        have hb5 := (s4.trans s5) _ _ hb
        have lm := List.mem_of_getElem? hl
        obtain ⟨p1, p2, p3⟩ := combos_mem.mp lm
        have lsub := ((combos_sub sE nd).mp lm).1
        have ll := lsub.length_le
        have ex7 : ∀ l', (ext E l').length ≤ 7 := fun l' => by
          unfold ext; rw [List.length_map]; exact Nat.le_trans (List.length_filter_le _ _) h7
        have lws : ws.length ≤ 896 := by
          rw [Paired.length pw]
          have := flat_len (ext E) 7 ((combos E k).take j) (fun l' _ => ex7 l')
          have h2 : ((combos E k).take j).length ≤ 128 := by rw [List.length_take]; omega
          have := Nat.mul_le_mul_left 7 h2
          omega
        refine ⟨_, rfl, _, rfl, t, xs, rfl, ThingsAt.same s05 ht, by rw [pm.length_eq]; omega, fun ys p pmy srt hp => ⟨p, rfl, ⟨_, SqL.of upd_same⟩, fun D hD => ?_⟩⟩
        have ey : ys = E := sorted_eq (pmy.trans pm) srt sE
        subst ey
        have s6 : Same H5 (upd H5 p (.lst (txs ys))) := same_new hp
        have hp6 : upd H5 p (.lst (txs ys)) p = some (.lst (txs ys)) := upd_same
        generalize upd H5 p (.lst (txs ys)) = H6 at *
        have hb6 := s6 _ _ hb5
        refine lcJ (H0 := H6) (same_frm H6) (src_list fun H' r => SqL.of (r _ _ hp6)) (fun i => ends l (ys.getD i e0)) (fun D i v H7 => LotAt H7 v (l ++ [ys.getD i e0])) (by simp; omega) (fun i v H1 H2 _ h r => h.same r) (fun i v H1 l1 l2 ⟨a, e, h⟩ hl => ⟨a, e, by rw [upd_ne (fun z => by rw [z, hl] at h; cases h)]; exact h⟩) (fun x => rfl) hD (same_new hD) ?_ ?_ ?_
        · intro i v H7 Qb hi r qq
          obtain ⟨y, hy, rfl⟩ := txs_at hi
          refine ⟨_, rfl, by rw [sizeLine_eq]; simp, fun e he => ?_⟩
          have s8 : Same H7 (upd H7 e (.tup [])) := same_new he
          refine ⟨lotD l, lotD [], lot_dp ⟨b, rfl, s8 _ _ (r _ _ hb6)⟩, lot_dp ⟨e, rfl, upd_same⟩, lot_shaped (fun x hx => hok x (lsub.subset hx)), lot_shaped (fun x hx => by cases hx), _, rfl, ?_⟩
          rw [lot_eqv]
          have key : ∀ bb, bb = ends l y → Qb bb (upd H7 e (.tup [])) := fun bb hbb => by
            have := qq _ s8
            rw [getD_at (d := e0) hy, ← hbb] at this
            exact this
          cases el : l.getLast? with
          | none =>
            have : l = [] := List.getLast?_eq_none_iff.mp el
            refine ifT (decide_eq_true this) (key true ?_)
            unfold BF.ends; rw [el]
          | some zz =>
            obtain ⟨l0, rfl⟩ := List.getLast?_eq_some_iff.mp el
            refine ifF (decide_eq_false (by simp)) ?_
            refine ⟨_, rfl, _, rfl, 1, rfl, b, _, -1, _, rfl, rfl, SqT.of (s8 _ _ (r _ _ hb6)), ?_, y, zz, rfl, rfl, _, rfl, key _ ?_⟩
            · rw [← txs_snoc]; exact atI_last _ _
            · unfold BF.ends; rw [el]
        · intro i v H7 Qv hi fi r qq
          obtain ⟨y, hy, rfl⟩ := txs_at hi
          refine ⟨_, rfl, _, rfl, len1, fun e he => ?_⟩
          have s8 : Same H7 (upd H7 e (.tup [.str y])) := same_new he
          rw [getD_at (d := e0) hy] at qq
          by_cases e0' : l = []
          · subst e0'
            refine .inl ⟨b, e, _, rfl, rfl, SqT.of (s8 _ _ (r _ _ hb6)), SqT.of upd_same, ?_⟩
            exact qq _ _ s8 ⟨e, rfl, upd_same⟩
          · refine .inr ⟨b, e, txs l, [.str y], rfl, rfl, SqT.of (s8 _ _ (r _ _ hb6)), SqT.of upd_same, by simpa using e0', by rw [sizeLine_eq]; simp; omega, fun h => (by cases h), fun _ c hc => ?_⟩
            refine qq _ _ (same_put s8 (s8.free hc)) ⟨c, rfl, ?_⟩
            rw [upd_same, txs_snoc]
        · intro H7 vs7 s7 hD7 pv7
          have hws7 := (s6.trans s7) _ _ hws
          have lv : vs7.length ≤ 7 := by rw [← Paired.length pv7]; exact Nat.le_trans (picks_len _ _) (by rw [List.length_map]; exact h7)
          refine ⟨g, D, ws, vs7, rfl, rfl, hws7, hD7, by rw [sizeLine_eq]; omega, fun c hc => ?_⟩
          have s57 := s6.trans s7
          have s8 : Same H7 (upd H7 c (.lst (ws ++ vs7))) := same_new hc
          refine hN2 _ _ ⟨⟨c, _, rfl, (s05.trans s57).free hc, _, upd_same, ?_⟩, (s5.trans s57).trans s8⟩
          rw [take_snoc hl, List.flatMap_append]
          have e1 : ([l] : List (List Str)).flatMap (ext ys) = ext ys l := by simp
          rw [e1]
          refine paired_app (Paired.imp (fun v l q => q.same (s57.trans s8)) pw) ?_
          have e2 : ext ys l = (picks (txs ys).length fun i => ends l (ys.getD i e0)).map fun i => l ++ [ys.getD i e0] := by
            rw [List.length_map, picks_filter (fun x => l ++ [x]) e0 (ends l) ys]
            rfl
          rw [e2]
          exact paired_mapR (Paired.imp (fun i v q => q.same s8) pv7)
end
end BF
set_option Elab.async false
set_option linter.all false
set_option maxRecDepth 100000
set_option maxHeartbeats 4000000
/-! The law's reckoning: all lots, bases, rank, ranks. -/
namespace BF
open PySem PySem.Spec PyProof.Rows L2
theorem paired_maps {α β γ : Type} {F : β → γ → Prop} (f : α → β) (g : α → γ) : ∀ (l : List α), (∀ a ∈ l, F (f a) (g a)) → Paired F (l.map f) (l.map g)
  | [], _ => .nil
  | a :: l, h => .cons (h a List.mem_cons_self) (paired_maps f g l fun b hb => h b (List.mem_cons_of_mem _ hb))
section
variable {X : Cx}
theorem opInD (K : PySem.W.Frag) (hu : X.A.units + 65 < cLine) (h : X.K = K := by rfl) : OpR X (compareOp .In) (rInD K) := by subst h; exact op_inD hu
end
def spAllLots (K : PySem.W.Frag) : Sp := fun vs H Q _ => ∃ (t : Addr) (xs E : List Str), vs = [.ref t] ∧ ThingsAt K H t xs ∧ xs.Perm E ∧ sortedS E = true ∧ E.Nodup ∧ E.length ≤ 7 ∧ (∀ x ∈ E, PyData.strOk x = true) ∧
  ∀ H' p us, Same H H' → H p = none → H' p = some (.lst us) → Paired (LotAt H') us (allLots E) → Q (.ref p) H'
theorem sc_law_all_lots : FnScope ["_law_things", "_law_found", "_law_many"] ["_law_things"] (defScope s_law_all_lots) := ⟨rfl, rfl, rfl, by decide +kernel, rfl, by decide +kernel, by decide +kernel⟩
def spBases (K : PySem.W.Frag) : Sp := fun vs H Q _ => ∃ (t fl : Addr) (xs E : List Str) (fs : List V) (Fs : List (List Str)), vs = [.ref t, .ref fl] ∧ ThingsAt K H t xs ∧ xs.Perm E ∧ sortedS E = true ∧ E.Nodup ∧ E.length ≤ 7 ∧ (∀ x ∈ E, PyData.strOk x = true) ∧
  H fl = some (.lst fs) ∧ Paired (LotAt H) fs Fs ∧ (∀ l ∈ Fs, l.Sublist E) ∧ [] ∈ Fs ∧ Fs.length ≤ 1000 ∧
  ∀ H' p us M, Same H H' → H p = none → H' p = some (.lst us) → Paired (LotAt H') us ((combos E M).filter fun l => decide (l ∈ Fs)) → ((combos E M).filter fun l => decide (l ∈ Fs)) ≠ [] → (∀ l ∈ Fs, l.length ≤ M) → Q (.ref p) H'
theorem sc_law_bases : FnScope ["_law_things", "_law_is_free", "_law_best", "_law_many", "_law_found", "_law_lot"] ["_law_things", "_law_is_free"] (defScope s_law_bases) := ⟨rfl, rfl, rfl, by decide +kernel, rfl, by decide +kernel, by decide +kernel⟩
section
variable {P : Program} {w : World} {K : PySem.W.Frag} {mg : Str → Option Value} {base : Heap}
theorem ok_law_all_lots (T : TX K mg) : FOk P w K mg base 2 ("_law_all_lots", none) ["_law_things"] (spAllLots K) := by
  refine T.fn 58 (d := d_law_all_lots) rfl rfl rfl sc_law_all_lots (fun vs H Q E h => ?_) (fun _ _ _ _ _ _ us hl => match us, hl with | [_], _ => rfl) (fun cdv A outer s H vs Q E hr h => ?_)
  · obtain ⟨t, xs, E, rfl, _⟩ := h; rfl
  · obtain ⟨t, xs, E, rfl, ht, pm, sE, nd, h7, hok, kk⟩ := h
    have ndN := sc_law_all_lots.nd
    refine ⟨_, pss_cons (ps_set (i := 1) ndN rfl (Or.inl rfl) (pe_lst pa_nil)) <|
      pss_cons (ps_for PassesOwn.never rfl (pi_range1 (by rfl) T.f_range (pa_cons (pe_add (pe_callB cr_lenAny (by rfl) T.f_len (by decide +kernel) (pa_cons (pv 0) pa_nil)) pe_int) pa_nil)) (pg_name (i := 2) ndN rfl (Or.inl rfl)) <|
        pss_one (ps_set (i := 1) ndN rfl (Or.inl rfl) (pe_op op_cat (pv 1) (pe_cl (ok_law_lots T) hr T.g_law_lots (pa_cons (pv 0) (pa_cons (pv 2) pa_nil)))))) <|
      pss_one (ps_ret (pv 1)), ?_⟩
    refine ⟨by rw [sizeLine_eq]; simp, fun f hf => ?_⟩
    have s1 : Same H (upd H f (.lst [])) := same_new hf
    have hf1 : upd H f (.lst []) f = some (.lst []) := upd_same
    generalize upd H f (.lst []) = H1 at *
    have lx := pm.length_eq
    refine ⟨_, rfl, t, xs, rfl, ThingsAt.same s1 ht, _, _, rfl, rfl, _, rfl, by omega, by omega, ?_⟩
    rw [show (((xs.length : Nat) : Int) + 1).toNat = E.length + 1 by omega]
    refine forR (E.length + 1) (fun j σ H3 => (∃ q o2, σ = [some (.ref t), some (.ref q), o2] ∧ H q = none ∧ ∃ us, H3 q = some (.lst us) ∧ Paired (LotAt H3) us ((List.range j).flatMap (combos E))) ∧ Same H H3) ⟨⟨f, none, rfl, hf, [], hf1, .nil⟩, s1⟩ ?_ ?_
    · rintro σ H3 ⟨⟨q, o2, rfl, hq, us, hus, pu⟩, s3⟩
      exact ⟨_, rfl, kk H3 q us s3 hq hus pu⟩
    · rintro j σ H3 hj ⟨⟨q, o2, rfl, hq, us, hus, pu⟩, s3⟩ N hN
      refine ⟨_, rfl, _, rfl, _, rfl, t, j, xs, E, rfl, ThingsAt.same s3 ht, pm, sE, nd, h7, hok, by omega, fun H4 p ws s4 hp hp4 pw => ?_⟩
      have l1 : us.length ≤ 1024 := by
        rw [Paired.length pu]
        have := flat_len (combos E) 128 (List.range j) (fun m _ => combos_len sE nd h7 m)
        rw [List.length_range] at this
        have := Nat.mul_le_mul_left 128 (show j ≤ 8 by omega)
        omega
      have l2 : ws.length ≤ 128 := by rw [Paired.length pw]; exact combos_len sE nd h7 j
      refine ⟨q, p, us, ws, rfl, rfl, s4 _ _ hus, hp4, by rw [sizeLine_eq]; omega, fun c hc => ?_⟩
      have s5 : Same H4 (upd H4 c (.lst (us ++ ws))) := same_new hc
      refine hN _ _ ⟨⟨c, _, rfl, (s3.trans s4).free hc, _, upd_same, ?_⟩, (s3.trans s4).trans s5⟩
      rw [List.range_succ, List.flatMap_append]
      have e1 : ([j] : List Nat).flatMap (combos E) = combos E j := by simp
      rw [e1]
      exact paired_app (Paired.imp (fun v l q => q.same (s4.trans s5)) pu) (Paired.imp (fun v l q => q.same s5) pw)
theorem ok_law_bases (T : TX K mg) : FOk P w K mg base 2 ("_law_bases", none) ["_law_things", "_law_is_free"] (spBases K) := by
  refine T.fn 57 (d := d_law_bases) rfl rfl rfl sc_law_bases (fun vs H Q E h => ?_) (fun _ _ _ _ _ _ us hl => match us, hl with | [_, _], _ => rfl) (fun cdv A outer s H vs Q E hr h => ?_)
  · obtain ⟨t, fl, xs, E, fs, Fs, rfl, _⟩ := h; rfl
  · obtain ⟨t, fl, xs, E, fs, Fs, rfl, ht, pm, sE, nd, h7, hok, hfl, pF, FE, F0, lF, kk⟩ := h
    have ndN := sc_law_bases.nd
    have hu6 := hu65 hr
    refine ⟨_, pss_cons (ps_set (i := 2) ndN rfl (Or.inl rfl) (pe_lst pa_nil)) <|
      pss_cons (ps_for PassesOwn.never rfl (pi_range1 (by rfl) T.f_range (pa_cons (pe_add (pe_callB cr_lenAny (by rfl) T.f_len (by decide +kernel) (pa_cons (pv 0) pa_nil)) pe_int) pa_nil)) (pg_name (i := 3) ndN rfl (Or.inl rfl)) <|
        pss_cons (ps_setLc (i := 4) (own := [("_law_lot", 5)]) (g := gName 5) rfl ndN rfl rfl (sw_true rfl rfl rfl rfl) (pi_list (pe_cl (ok_law_lots T) hr T.g_law_lots (pa_cons (pv 0) (pa_cons (pv 3) pa_nil)))) (blkOk_by (N := ["_law_things", "_law_is_free", "_law_best", "_law_many", "_law_found", "_law_lot"]) (sc := defScope s_law_bases) (by decide +kernel)) (fun _ _ _ _ _ => pg_name (i := 5) ndN rfl (Or.inl rfl))
          (fun _ _ _ _ _ => pts_one (pt_cmpR (opInD K hu6) (pv 5) (pv 1) (by rfl))) (fun _ _ _ _ _ => pv 5)) <|
        pss_one (ps_if (pt_cmpR (op_neD hr.units) (pv 4) (pe_lst pa_nil) (by rfl)) (pss_one (ps_set (i := 2) ndN rfl (Or.inl rfl) (pv 4))) pss_nil)) <|
      pss_one (ps_ret (pv 2)), ?_⟩
    refine ⟨by rw [sizeLine_eq]; simp, fun f hf => ?_⟩
    have s1 : Same H (upd H f (.lst [])) := same_new hf
    have hf1 : upd H f (.lst []) f = some (.lst []) := upd_same
    generalize upd H f (.lst []) = H1 at *
    have lx := pm.length_eq
    refine ⟨_, rfl, t, xs, rfl, ThingsAt.same s1 ht, _, _, rfl, rfl, _, rfl, by omega, by omega, ?_⟩
    rw [show (((xs.length : Nat) : Int) + 1).toNat = E.length + 1 by omega]
    refine forR (E.length + 1) (fun j σ H3 => (∃ q o3 o4, σ = [some (.ref t), some (.ref fl), some (.ref q), o3, o4, none] ∧ H q = none ∧ (j = 0 ∨ ∃ us M, H3 q = some (.lst us) ∧ Paired (LotAt H3) us ((combos E M).filter fun l => decide (l ∈ Fs)) ∧ ((combos E M).filter fun l => decide (l ∈ Fs)) ≠ [] ∧ ∀ l ∈ Fs, l.length < j → l.length ≤ M)) ∧ Same H H3) ⟨⟨f, none, none, rfl, hf, .inl rfl⟩, s1⟩ ?_ ?_
    · rintro σ H3 ⟨⟨q, o3, o4, rfl, hq, h0 | ⟨us, M, hus, pu, ne, top⟩⟩, s3⟩
      · omega
      · exact ⟨_, rfl, kk H3 q us M s3 hq hus pu ne fun l hl => top l hl (by have := (FE l hl).length_le; omega)⟩
    · rintro j σ H3 hj ⟨⟨q, o3, o4, rfl, hq, hcase⟩, s3⟩ N hN
      refine ⟨_, rfl, _, rfl, t, j, xs, E, rfl, ThingsAt.same s3 ht, pm, sE, nd, h7, hok, by omega, fun H4 p ws s4 hp hp4 pw => ⟨p, rfl, ⟨_, SqL.of hp4⟩, fun D hD => ?_⟩⟩
      have s34 := s3.trans s4
      have lw : ws.length = (combos E j).length := Paired.length pw
      have l128 := combos_len sE nd h7 j
      refine lcV (H0 := H4) (same_frm H4) (src_list fun H' r => SqL.of (r _ _ hp4)) (fun i => decide ((combos E j).getD i [] ∈ Fs)) (fun i => ws.getD i .non) (by omega) (fun x => rfl) hD (same_new hD) ?_ ?_ ?_
      · intro i v H5 Qb hi r qq
        obtain ⟨l, hl, b, rfl, hb⟩ := paired_at pw hi
        have lsub := ((combos_sub sE nd).mp (List.mem_of_getElem? hl)).1
        have s45 := s34.trans r
        refine ⟨_, rfl, _, rfl, lotD l, Fs.map lotD, lot_dp ⟨b, rfl, r _ _ hb⟩, .lst (SqL.of (s45 _ _ hfl)) (lots_dp (Paired.imp (fun v l q => q.same s45) pF)), lot_shaped (fun x hx => hok x (lsub.subset hx)), lots_shaped (fun l hl x hx => hok x ((FE l hl).subset hx)), _, rfl, ?_⟩
        rw [any_lots, ← getD_at (d := []) hl]
        exact qq H5 (Same.refl _)
      · intro i v H5 Qv hi _ r qq
        refine ⟨_, rfl, ?_⟩
        rw [← getD_at (d := V.non) hi]
        exact qq H5 (Same.refl _)
      · intro H5 s5 hd5
        have s35 := s34.trans s5
        have pnew : Paired (LotAt H5) ((picks ws.length fun i => decide ((combos E j).getD i [] ∈ Fs)).map fun i => ws.getD i .non) ((combos E j).filter fun l => decide (l ∈ Fs)) := by
          have e : ((combos E j).filter fun l => decide (l ∈ Fs)) = (picks ws.length fun i => decide ((combos E j).getD i [] ∈ Fs)).map fun i => (combos E j).getD i [] := by
            rw [lw, picks_filter (fun l : List Str => l) [] (fun l => decide (l ∈ Fs)) (combos E j), List.map_id']
          rw [e]
          refine paired_maps _ _ _ fun i hi => ?_
          have hi' := (picks_lt hi).1
          obtain ⟨l, hl, hL⟩ := paired_at pw (List.getElem?_eq_getElem hi')
          rw [getD_at (List.getElem?_eq_getElem hi'), getD_at hl]
          exact hL.same s5
        have subs : ∀ l ∈ (combos E j).filter (fun l => decide (l ∈ Fs)), ∀ x ∈ l, PyData.strOk x = true := fun l hl x hx => hok x (((combos_sub sE nd).mp (List.mem_filter.mp hl).1).1.subset hx)
        refine ⟨_, rfl, by rw [sizeLine_eq]; simp, fun e he => ?_⟩
        have s6 : Same H5 (upd H5 e (.lst [])) := same_new he
        refine ⟨.list (((combos E j).filter fun l => decide (l ∈ Fs)).map lotD), .list [], .lst (SqL.of (s6 _ _ hd5)) (lots_dp (Paired.imp (fun v l q => q.same s6) pnew)), .lst (SqL.of upd_same) .nil, lots_shaped subs, lots_shaped (Ls := []) (fun l hl => by cases hl), _, rfl, ?_⟩
        have free5 : H D = none := s34.free hD
        by_cases ne : ((combos E j).filter fun l => decide (l ∈ Fs)) = []
        · rw [ne]
          refine ifF (by simp [PyData.eqv, PyData.eqvAll]) ?_
          have nomem : ∀ l ∈ Fs, l.length ≠ j := fun l hl e => by
            have : l ∈ (combos E j).filter fun l => decide (l ∈ Fs) := List.mem_filter.mpr ⟨(combos_sub sE nd).mpr ⟨FE l hl, e⟩, decide_eq_true hl⟩
            rw [ne] at this; cases this
          rcases hcase with h0 | ⟨us, M, hus, pu, ne2, top⟩
          · exact absurd h0 (by intro h0; subst h0; exact nomem [] F0 rfl)
          · exact hN _ _ ⟨⟨q, _, _, rfl, hq, .inr ⟨us, M, (s4.trans (s5.trans s6)) _ _ hus, Paired.imp (fun v l q => q.same (s4.trans (s5.trans s6))) pu, ne2, fun l hl hlt => top l hl (by have := nomem l hl; omega)⟩⟩, s35.trans s6⟩
        · refine ifT ?_ ⟨_, rfl, hN _ _ ⟨⟨D, _, _, rfl, free5, .inr ⟨_, j, s6 _ _ hd5, Paired.imp (fun v l q => q.same s6) pnew, ne, fun l hl hlt => by omega⟩⟩, s35.trans s6⟩⟩
          obtain ⟨x, r, e2⟩ := List.exists_cons_of_ne_nil ne
          rw [e2]
          simp [PyData.eqv, PyData.eqvAll]
end
end BF
set_option Elab.async false
set_option linter.all false
set_option maxRecDepth 100000
set_option maxHeartbeats 4000000
/-! The law's reckoning: rank, ranks. -/
namespace BF
open PySem PySem.Spec PyProof.Rows L2
theorem hu2_of {A : Around} {k : Nat} (hr : Room k A) : A.units + 2 < cLine := by
  have h := hr.un
  omega
def spRankL (K : PySem.W.Frag) : Sp := fun vs H Q _ => ∃ (bl l : Addr) (us : List V) (Bs : List (List Str)) (xs : List Str) (n : Nat), vs = [.ref bl, .ref l] ∧ H bl = some (.lst us) ∧ Paired (LotAt H) us Bs ∧ Bs ≠ [] ∧ Bs.length ≤ 1000 ∧ SqT K H l (txs xs) ∧ xs.length ≤ 1000 ∧
  (∃ B ∈ Bs, (xs.filter (mem B)).length = n) ∧ (∀ B ∈ Bs, (xs.filter (mem B)).length ≤ n) ∧ ∀ H', Same H H' → Q (.int n) H'
theorem sc_law_rank : FnScope ["_law_bases_here", "_law_lot", "_law_base", "_law_thing"] ["_law_bases_here", "_law_lot"] (defScope s_law_rank) := ⟨rfl, rfl, rfl, by decide +kernel, rfl, by decide +kernel, by decide +kernel⟩
def scL2 : Scope := { kind := .function, names := [(".0", .local), ("_law_base", .cell), ("len", .globalImplicit), ("_law_lot", .cell)], isGenerator := false, isCoroutine := false }
def ranksK (r : List Str → Nat) (ls : List (List Str)) : List (List Key × V) := ls.map fun l => (keyL l, V.int ((r l : Nat) : Int))
theorem prs_of {H : Hp} {r : List Str → Nat} {ls : List (List Str)} : ∀ {is : List Nat} {vs : List V}, Paired (fun i v => ∃ (a b : Addr), v = V.ref a ∧ H a = some (.tup [.ref b, .int ((r (ls.getD i []) : Nat) : Int)]) ∧ H b = some (.tup (txs (ls.getD i [])))) is vs →
    ∃ ps : List Pr, vs = ps.map (fun p => V.ref p.1) ∧ ps.map (fun p => (p.2.1, p.2.2.2)) = is.map (fun i => (keyL (ls.getD i []), V.int ((r (ls.getD i []) : Nat) : Int))) ∧ ∀ p ∈ ps, PrOk H p
  | _, _, .nil => ⟨[], rfl, rfl, fun p h => by cases h⟩
  | i :: is, v :: vs, .cons q t => by
    obtain ⟨ps, h1, h2, h3⟩ := prs_of t
    obtain ⟨a, b, e, h4, h5⟩ := q
    refine ⟨(a, keyL (ls.getD i []), b, .int ((r (ls.getD i []) : Nat) : Int)) :: ps, by rw [e, h1]; rfl, by rw [List.map_cons, List.map_cons, h2], fun p hp => ?_⟩
    rcases List.mem_cons.mp hp with rfl | hp
    · exact ⟨h4, by rw [keyL_kV]; exact h5⟩
    · exact h3 p hp
def spRanks (K : PySem.W.Frag) : Sp := fun vs H Q _ => ∃ (bl t : Addr) (us : List V) (Bs : List (List Str)) (xs E : List Str) (r : List Str → Nat), vs = [.ref bl, .ref t] ∧ H bl = some (.lst us) ∧ Paired (LotAt H) us Bs ∧ Bs ≠ [] ∧ Bs.length ≤ 1000 ∧ ThingsAt K H t xs ∧ xs.Perm E ∧ sortedS E = true ∧ E.Nodup ∧ E.length ≤ 7 ∧ (∀ x ∈ E, PyData.strOk x = true) ∧
  (∀ l : List Str, l.Sublist E → (∃ B ∈ Bs, (l.filter (mem B)).length = r l) ∧ ∀ B ∈ Bs, (l.filter (mem B)).length ≤ r l) ∧
  ∀ H' p, Same H H' → H p = none → H' p = some (.dT (ranksK r (allLots E))) → Q (.ref p) H'
theorem sc_law_ranks : FnScope ["_law_bases_here", "_law_things", "_law_lot"] ["_law_bases_here", "_law_things"] (defScope s_law_ranks) := ⟨rfl, rfl, rfl, by decide +kernel, rfl, by decide +kernel, by decide +kernel⟩
section
variable {P : Program} {w : World} {K : PySem.W.Frag} {mg : Str → Option Value} {base : Heap}
theorem ok_law_rank (T : TX K mg) : FOk P w K mg base 1 ("_law_rank", none) ["_law_bases_here", "_law_lot"] (spRankL K) := by
  refine T.fn 60 (d := d_law_rank) rfl rfl rfl sc_law_rank (fun vs H Q E h => ?_) (fun _ _ _ _ _ _ us hl => match us, hl with | [_, _], _ => rfl) (fun cdv A outer s H vs Q E hr h => ?_)
  · obtain ⟨bl, l, us, Bs, xs, n, rfl, _⟩ := h; rfl
  · obtain ⟨bl, l, us, Bs, xs, n, rfl, hbl, pB, neB, lB, hx, hz, hn1, hn2, k⟩ := h
    have nd := sc_law_rank.nd
    refine ⟨_, pss_one (ps_ret (pe_callB (cr_max rfl) (by rfl) T.f_max (by decide +kernel) (pa_cons
        (pe_lc (own := [("_law_base", 2)]) (g := gName 2) rfl nd (pi_list (pv 0)) (blkOk_by (N := ["_law_bases_here", "_law_lot", "_law_base", "_law_thing"]) (sc := defScope s_law_rank) (by decide +kernel)) (fun _ _ _ _ _ => pg_name (i := 2) nd rfl (Or.inr rfl))
          (fun _ _ _ _ _ => pts_nil) (fun _ _ _ _ _ => pe_callB (crLen K) (by rfl) T.f_len (by decide +kernel) (pa_cons
            (pe_lc (own := [("_law_thing", 3)]) (g := gName 3) rfl nd (piTup K (pv 1)) (blkOk_by (N := ["_law_bases_here", "_law_lot", "_law_base", "_law_thing"]) (sc := scL2) (by decide +kernel)) (fun _ _ _ _ _ => pg_name (i := 3) nd rfl (Or.inl rfl))
              (fun _ _ _ _ _ => pts_one (pt_cmpR (opIn K) (pv 3) (pv 2) (by rfl))) (fun _ _ _ _ _ => pv 3)) pa_nil))) pa_nil))), ?_⟩
    have hlen : us.length = Bs.length := Paired.length pB
    refine ⟨_, rfl, bl, rfl, ⟨_, SqL.of hbl⟩, fun L hL => ?_⟩
    refine lcV (H0 := H) (same_frm H) (src_list fun H' r => SqL.of (r _ _ hbl)) (fun _ => true) (fun i => .int ((xs.filter (mem (Bs.getD i []))).length : Nat)) (by omega) (fun x => rfl) hL (same_new hL) ?_ ?_ ?_
    · intro i x H2 Qb hi r q
      exact q H2 (Same.refl _)
    · intro i x H2 Qv hi _ r q
      obtain ⟨B, hB, b, rfl, hb⟩ := paired_at pB hi
      refine ⟨_, rfl, l, rfl, ⟨_, same_seqT r hx⟩, fun M hM => ?_⟩
      refine lcV (H0 := H2) (same_frm H2) (src_tup fun H' r' => same_seqT (r.trans r') hx) (fun j => mem B (xs.getD j e0)) (fun j => .str (xs.getD j e0)) (by simp; omega) (fun x => rfl) hM (same_new hM) ?_ ?_ ?_
      · intro j y H3 Qb hj r3 q3
        obtain ⟨s, hs, rfl⟩ := txs_at hj
        refine ⟨_, rfl, _, rfl, b, _, rfl, .inr (SqT.of (r3 _ _ (r _ _ hb))), rfl, flat_txs _, _, rfl, ?_⟩
        rw [if_neg (by decide), inV_txs, ← getD_at (d := e0) hs]
        exact q3 H3 (Same.refl _)
      · intro j y H3 Qw hj _ r3 q3
        obtain ⟨s, hs, rfl⟩ := txs_at hj
        refine ⟨_, rfl, ?_⟩
        rw [← getD_at (d := e0) hs]
        exact q3 H3 (Same.refl _)
      · intro H3 r3 hd
        refine ⟨M, _, rfl, .inl (SqL.of hd), ?_⟩
        have e : (picks xs.length fun j => mem B (xs.getD j e0)).length = (xs.filter (mem B)).length := by
          have := congrArg List.length (picks_filter V.str e0 (mem B) xs)
          rw [List.length_map, List.length_map] at this
          exact this
        rw [List.length_map, List.length_map, e, ← getD_at (d := []) hB]
        exact q H3 r3
    · intro H2 r hd
      have e : (picks us.length fun _ => true).map (fun i => V.int ((xs.filter (mem (Bs.getD i []))).length : Nat)) = (Bs.map fun B => (((xs.filter (mem B)).length : Nat) : Int)).map V.int := by
        rw [picks_all, hlen, List.map_map]
        exact map_range' (fun B => V.int (((xs.filter (mem B)).length : Nat) : Int)) [] Bs
      rw [e] at hd
      refine ⟨L, _, rfl, SqL.of hd, ?_, fun m hm hmax => ?_⟩
      · rw [List.length_map]; exact List.length_pos_iff.mpr neB
      · obtain ⟨B, hB, hBn⟩ := hn1
        obtain ⟨C, hC, hCm⟩ := List.mem_map.mp hm
        have h1 := hn2 C hC
        have h2 := hmax _ (List.mem_map_of_mem (f := fun B => (((xs.filter (mem B)).length : Nat) : Int)) hB)
        have : m = (n : Int) := by omega
        rw [this]
        exact k H2 r
theorem ok_law_ranks (T : TX K mg) : FOk P w K mg base 3 ("_law_ranks", none) ["_law_bases_here", "_law_things"] (spRanks K) := by
  refine T.fn 61 (d := d_law_ranks) rfl rfl rfl sc_law_ranks (fun vs H Q E h => ?_) (fun _ _ _ _ _ _ us hl => match us, hl with | [_, _], _ => rfl) (fun cdv A outer s H vs Q E hr h => ?_)
  · obtain ⟨bl, t, us, Bs, xs, E, r, rfl, _⟩ := h; rfl
  · obtain ⟨bl, t, us, Bs, xs, E, r, rfl, hbl, pB, neB, lB, ht, pm, sE, nd, h7, hok, hr2, kk⟩ := h
    have ndN := sc_law_ranks.nd
    have hu2 := hu2_of hr
    refine ⟨_, pss_one (ps_ret (pe_callTy (cr_dictT rfl hu2) (by rfl) T.f_dict (by decide +kernel) (pa_cons
        (pe_lc (own := [("_law_lot", 2)]) (g := gName 2) rfl ndN (pi_list (pe_cl (ok_law_all_lots T) hr T.g_law_all_lots (pa_cons (pv 1) pa_nil))) (blkOk_by (N := ["_law_bases_here", "_law_things", "_law_lot"]) (sc := defScope s_law_ranks) (by decide +kernel)) (fun _ _ _ _ _ => pg_name (i := 2) ndN rfl (Or.inl rfl))
          (fun _ _ _ _ _ => pts_nil) (fun _ _ _ _ _ => pe_tup (pa_cons (pv 2) (pa_cons (pe_cl (ok_law_rank T) (hr.mono (by omega)) T.g_law_rank (pa_cons (pv 0) (pa_cons (pv 2) pa_nil))) pa_nil)))) pa_nil))), ?_⟩
    refine ⟨_, rfl, t, xs, E, rfl, ht, pm, sE, nd, h7, hok, fun H1 p ws s1 hp hp1 pw => ⟨p, rfl, ⟨_, SqL.of hp1⟩, fun D hD => ?_⟩⟩
    have lw : ws.length = (allLots E).length := Paired.length pw
    have l128 := all_len sE nd h7
    refine lcJ (H0 := H1) (same_frm H1) (src_list fun H' r => SqL.of (r _ _ hp1)) (fun _ => true) (fun D i v H2 => ∃ (a b : Addr), v = .ref a ∧ H2 a = some (.tup [.ref b, .int ((r ((allLots E).getD i []) : Nat) : Int)]) ∧ H2 b = some (.tup (txs ((allLots E).getD i [])))) (by omega) (fun i v H2 H3 _ ⟨a, b, e, h1, h2⟩ s => ⟨a, b, e, s _ _ h1, s _ _ h2⟩)
      (fun i v H2 l l' ⟨a, b, e, h1, h2⟩ hl => ⟨a, b, e, by rw [upd_ne (fun z => by rw [z, hl] at h1; cases h1)]; exact h1, by rw [upd_ne (fun z => by rw [z, hl] at h2; cases h2)]; exact h2⟩) (fun x => rfl) hD (same_new hD) ?_ ?_ ?_
    · intro i x H2 Qb hi s2 q
      exact q H2 (Same.refl _)
    · intro i x H2 Qv hi _ s2 q
      obtain ⟨l, hl, b, rfl, hb⟩ := paired_at pw hi
      have lsub := (all_mem sE nd).mp (List.mem_of_getElem? hl)
      obtain ⟨h1, h2⟩ := hr2 l lsub
      have s12 := s1.trans s2
      refine ⟨_, rfl, _, rfl, _, rfl, bl, b, us, Bs, l, r l, rfl, s12 _ _ hbl, Paired.imp (fun v l q => q.same s12) pB, neB, lB, SqT.of (s2 _ _ hb), by have := lsub.length_le; omega, h1, h2, fun H3 s3 => ⟨len2, fun a ha => ?_⟩⟩
      have s4 : Same H3 (upd H3 a (.tup [.ref b, .int ((r l : Nat) : Int)])) := same_new ha
      refine q (.ref a) _ (s3.trans s4) ⟨a, b, rfl, ?_, ?_⟩
      · rw [upd_same, getD_at (d := []) hl]
      · rw [getD_at (d := []) hl]; exact s4 _ _ (s3 _ _ (s2 _ _ hb))
    · intro H2 vs2 s2 hD2 pv2
      obtain ⟨ps, e1, e2, e3⟩ := prs_of (r := r) (ls := allLots E) pv2
      rw [picks_all, lw] at e2
      have e2' : ps.map (fun p => (p.2.1, p.2.2.2)) = ranksK r (allLots E) := by
        rw [e2]
        exact map_range' (fun l => (keyL l, V.int ((r l : Nat) : Int))) [] (allLots E)
      have e4 : ps.map (·.2.1) = (allLots E).map keyL := by
        have := congrArg (List.map (·.1)) e2'
        rw [List.map_map] at this
        unfold ranksK at this
        rw [List.map_map] at this
        exact this
      refine ⟨D, ps, rfl, by rw [← e1]; exact SqL.of hD2, e3, ?_, fun d hd => ?_⟩
      · rw [e4]
        exact nd_map keyL _ (all_nd sE nd) fun a _ b _ e => keyL_inj e
      · have s02 := s1.trans s2
        rw [e2']
        exact kk _ d (same_put s02 (s02.free hd)) (s02.free hd) upd_same
end
end BF
set_option Elab.async false
set_option linter.all false
set_option maxRecDepth 100000
set_option maxHeartbeats 4000000
/-! The law's reckoning: fewest. -/
namespace BF
open PySem PySem.Spec PyProof.Rows L2
def spFewL : Sp := fun vs H Q _ => ∃ (d : Addr) (E : List Str) (r : List Str → Nat), vs = [.ref d] ∧ H d = some (.dT (ranksK r (allLots E))) ∧ Mat E r ∧ sortedS E = true ∧ E.length ≤ 7 ∧ (∀ x ∈ E, PyData.strOk x = true) ∧
  ∀ H' o, Same H H' → FewIs E r o → Q (optV o) H'
theorem sc_law_fewest : FnScope ["_law_ranks_here", "_law_found", "_law_lot"] ["_law_ranks_here"] (defScope s_law_fewest) := ⟨rfl, rfl, rfl, by decide +kernel, rfl, by decide +kernel, by decide +kernel⟩
theorem unlock {H H' : Hp} {d : Addr} {u v : HO} (h : H d = some u) (s : Same (upd H d v) H') : Same H (upd H' d u) := fun b o e => by
  by_cases z : b = d
  · subst z; rw [upd_same, ← e, h]
  · rw [upd_ne z]; exact s b o (by rw [upd_ne z]; exact e)
theorem ranks_at {r : List Str → Nat} {ls : List (List Str)} {i : Nat} {k : List Key} {v : V} (h : (ranksK r ls)[i]? = some (k, v)) : ∃ l, ls[i]? = some l ∧ k = keyL l ∧ v = .int ((r l : Nat) : Int) := by
  unfold ranksK at h
  rw [List.getElem?_map] at h
  obtain ⟨l, hl, e⟩ := Option.map_eq_some_iff.mp h
  injection e with e1 e2
  exact ⟨l, hl, e1.symm, e2.symm⟩
theorem ranks_val {r : List Str → Nat} {l : List Str} : ∀ {ls : List (List Str)}, l ∈ ls → valV (ranksK r ls) (keyL l) = some (.int ((r l : Nat) : Int))
  | m :: ls, h => by
    by_cases e : m = l
    · subst e; exact valV_pos rfl
    · show valV ((keyL m, V.int ((r m : Nat) : Int)) :: ranksK r ls) _ = _
      rw [valV_neg (fun z => e (keyL_inj z))]
      rcases List.mem_cons.mp h with rfl | h
      · exact absurd rfl e
      · exact ranks_val h
theorem Mat.rk_le {E : List Str} {r : List Str → Nat} (m : Mat E r) {l : List Str} (s : l.Sublist E) : r l ≤ l.length := by
  obtain ⟨q, h1, _, h3⟩ := m.base (mem l)
  have := crd_mono (E := E) (p := q) (q := mem l) h1
  rw [crd_sub m.nd s] at this
  rw [rho_mem m s] at h3
  omega
theorem ceil_ok {a r : Nat} (h : 0 < r) : a ≤ (a + r - 1) / r * r ∧ (0 < a → ((a + r - 1) / r - 1) * r < a) := by
  have h1 := Nat.div_add_mod (a + r - 1) r
  have h2 := Nat.mod_lt (a + r - 1) h
  have h3 : r * ((a + r - 1) / r) = (a + r - 1) / r * r := Nat.mul_comm _ _
  constructor
  · omega
  · intro ha
    rw [Nat.sub_mul]
    omega
section
variable {P : Program} {w : World} {K : PySem.W.Frag} {mg : Str → Option Value} {base : Heap}
theorem ok_law_fewest (T : TX K mg) : FOk P w K mg base 1 ("_law_fewest", none) ["_law_ranks_here"] spFewL := by
  refine T.fn 62 (d := d_law_fewest) rfl rfl rfl sc_law_fewest (fun vs H Q E h => ?_) (fun _ _ _ _ _ _ us hl => match us, hl with | [_], _ => rfl) (fun cdv A outer s H vs Q E hr h => ?_)
  · obtain ⟨d, E, r, rfl, _⟩ := h; rfl
  · obtain ⟨d, E, r, rfl, hd, m, sE, h7, hok, kk⟩ := h
    have ndN := sc_law_fewest.nd
    have hu := hu_of hr
    have nd := m.nd
    refine ⟨_, pss_cons (ps_set (i := 1) ndN rfl (Or.inl rfl) pe_int) <|
      pss_cons (ps_lock (ps_for PassesOwn.never rfl (pi_keys (pv 0)) (pg_name (i := 2) ndN rfl (Or.inl rfl)) <|
        pss_cons (ps_if (pw_and (pt_cmpR (op_neD hr.units) (pv 2) (pe_tup pa_nil) (by rfl)) (pw_and1 (pt_cmpR op_eq (pe_dget hu (pv 0) (pv 2) (fun _ _ => rfl)) pe_int (by rfl)))).pt (pss_one (ps_ret pe_non)) pss_nil) <|
        pss_one (ps_if (pt_cmpR (op_neD hr.units) (pv 2) (pe_tup pa_nil) (by rfl)) (pss_one (ps_set (i := 1) ndN rfl (Or.inl rfl) (pe_callB (call_max2 rfl) (by rfl) T.f_max (by decide +kernel) (pa_cons (pv 1) (pa_cons
          (pe_op op_fdiv (pe_sub (pe_add (pe_callB call_len_seq (by rfl) T.f_len (by decide +kernel) (pa_cons (pv 2) pa_nil)) (pe_dget hu (pv 0) (pv 2) (fun _ _ => rfl))) pe_int) (pe_dget hu (pv 0) (pv 2) (fun _ _ => rfl))) pa_nil))))) pss_nil))) <|
      pss_one (ps_ret (pv 1)), ?_⟩
    refine ⟨d, _, hd, True.intro, fun od => ?_⟩
    have hd1 : upd H d (.frz od (.dT (ranksK r (allLots E)))) d = some (.frz od (.dT (ranksK r (allLots E)))) := upd_same
    have back : ∀ H', Same (upd H d (.frz od (.dT (ranksK r (allLots E))))) H' → Same H (upd H' d (.dT (ranksK r (allLots E)))) := fun H' s => unlock hd s
    generalize upd H d (.frz od (.dT (ranksK r (allLots E)))) = H1 at *
    refine ⟨_, rfl, d, od, rfl, .inr ⟨_, hd1, ?_⟩⟩
    have lenk : (ranksK r (allLots E)).length = (allLots E).length := by unfold ranksK; rw [List.length_map]
    refine forG (allLots E).length (fun i σ H2 => ∃ (n : Nat) (o2 : Option V), σ = [some (.ref d), some (.int n), o2] ∧ Same H1 H2 ∧ (∀ l ∈ (allLots E).take i, l ≠ [] → r l ≠ 0 ∧ l.length ≤ n * r l) ∧ (n = 0 ∨ ∃ l ∈ allLots E, l ≠ [] ∧ (n - 1) * r l < l.length)) ⟨0, none, rfl, Same.refl _, fun l hl => (by rw [List.take_zero] at hl; cases hl), .inl rfl⟩ ?_ ?_ ?_
    · rintro i σ H2 hi ⟨n, o2, rfl, s2, _⟩
      exact ⟨s2 _ _ hd1, by rw [lenk]; exact hi⟩
    · rintro σ H2 ⟨n, o2, rfl, s2, hall, hmax⟩
      rw [List.take_length] at hall
      refine ⟨⟨s2 _ _ hd1, by rw [lenk]; exact Nat.le_refl _⟩, s2 _ _ hd1, _, rfl, ?_⟩
      refine kk _ (some n) (back H2 s2) ⟨fun x hx e => ?_, fun X => ?_, fun j hj c => ?_⟩
      · have h1 := (all_mem sE nd).mpr (single_sub hx)
        have h2 := rho_mem m (single_sub hx)
        have h3 : rho E r (only x) = rho E r (mem [x]) := by
          unfold rho
          congr 1
          exact List.filter_congr fun y _ => by unfold only mem; simp
        rw [h3, h2] at e
        exact (hall [x] h1 (by simp)).1 e
      · have h1 := (all_mem sE nd).mpr (List.filter_sublist (p := X) (l := E))
        unfold crd rho
        by_cases e : E.filter X = []
        · rw [e]; simp
        · exact (hall _ h1 e).2
      · rcases hmax with h0 | ⟨l, hl, _, hlt⟩
        · omega
        · have lsub := (all_mem sE nd).mp hl
          have := c (mem l)
          rw [crd_sub nd lsub, rho_mem m lsub] at this
          have h2 : j * r l ≤ (n - 1) * r l := Nat.mul_le_mul_right _ (by omega)
          omega
    · rintro i σ H2 hi ⟨n, o2, rfl, s2, hall, hmax⟩ N hN x H' ⟨rfl, k, v, q, hk, rfl, hq⟩
      obtain ⟨l, hl, rfl, rfl⟩ := ranks_at hk
      rw [keyL_kV] at hq
      have hlm := List.mem_of_getElem? hl
      have lsub := (all_mem sE nd).mp hlm
      have okl : ∀ x ∈ l, PyData.strOk x = true := fun x hx => hok x (lsub.subset hx)
      have tk := take_snoc hl
      refine ⟨_, rfl, by rw [sizeLine_eq]; simp, fun e he => ?_⟩
      have s8 : Same H' (upd H' e (.tup [])) := same_new he
      have he8 : upd H' e (.tup []) e = some (.tup []) := upd_same
      generalize upd H' e (.tup []) = H3 at *
      have s13 := s2.trans s8
      refine ⟨lotD l, lotD [], lot_dp ⟨q, rfl, s8 _ _ hq⟩, lot_dp ⟨e, rfl, he8⟩, lot_shaped okl, lot_shaped (fun x hx => by cases hx), _, rfl, ?_⟩
      rw [lot_eqv]
      have g : ∀ H4, Same H3 H4 → DGet H4 d (.ref q) (some (.int ((r l : Nat) : Int))) := fun H4 s4 => .inr ⟨_, keyL l, q, .inr ⟨od, (s13.trans s4) _ _ hd1⟩, rfl, by rw [keyL_kV]; exact (s8.trans s4) _ _ hq, (ranks_val hlm).symm⟩
      by_cases l0 : l = []
      · refine ifF (by rw [decide_eq_true l0]; rfl) ?_
        refine ⟨_, rfl, by rw [sizeLine_eq]; simp, fun e2 he2 => ?_⟩
        have s9 : Same H3 (upd H3 e2 (.tup [])) := same_new he2
        refine ⟨lotD l, lotD [], lot_dp ⟨q, rfl, s9 _ _ (s8 _ _ hq)⟩, lot_dp ⟨e2, rfl, upd_same⟩, lot_shaped okl, lot_shaped (fun x hx => by cases hx), _, rfl, ?_⟩
        rw [lot_eqv]
        refine ifF (by rw [decide_eq_true l0]; rfl) (hN _ _ ⟨n, _, rfl, s13.trans s9, fun l' hl' ne => ?_, hmax⟩)
        rw [tk] at hl'
        rcases List.mem_append.mp hl' with hl' | hl'
        · exact hall l' hl' ne
        · rw [List.mem_singleton.mp hl'] at ne; exact absurd l0 ne
      · refine ifT (by rw [decide_eq_false l0]; rfl) ⟨_, rfl, _, rfl, d, _, rfl, g H3 (Same.refl _), rfl, _, rfl, ?_⟩
        rw [show decide (V.int ((r l : Nat) : Int) = V.int 0) = decide (r l = 0) from decInt _ 0]
        by_cases r0 : r l = 0
        · refine ifT (decide_eq_true r0) ⟨s13 _ _ hd1, ?_⟩
          obtain ⟨x, l', el⟩ := List.exists_cons_of_ne_nil l0
          have xl : x ∈ l := by rw [el]; exact List.mem_cons_self
          refine kk _ none (back H3 s13) ⟨x, lsub.subset xl, ?_⟩
          have h1 := m.mono (p := only x) (q := mem l) (fun y _ hy => by rw [of_decide_eq_true hy]; exact mem_t.mpr xl)
          rw [rho_mem m lsub, r0] at h1
          omega
        · refine ifF (decide_eq_false r0) ?_
          refine ⟨_, rfl, by rw [sizeLine_eq]; simp, fun e2 he2 => ?_⟩
          have s9 : Same H3 (upd H3 e2 (.tup [])) := same_new he2
          have he9 : upd H3 e2 (.tup []) e2 = some (.tup []) := upd_same
          generalize upd H3 e2 (.tup []) = H4 at *
          refine ⟨lotD l, lotD [], lot_dp ⟨q, rfl, s9 _ _ (s8 _ _ hq)⟩, lot_dp ⟨e2, rfl, he9⟩, lot_shaped okl, lot_shaped (fun x hx => by cases hx), _, rfl, ?_⟩
          rw [lot_eqv]
          have rsm : r l ≤ l.length := m.rk_le lsub
          have ll := lsub.length_le
          refine ifT (by rw [decide_eq_false l0]; rfl) ⟨_, rfl, _, rfl, q, txs l, rfl, .inr (SqT.of (s9 _ _ (s8 _ _ hq))), _, rfl, _, rfl, d, _, rfl, g H4 s9, _, _, rfl, rfl, _, _, rfl, rfl, _, rfl, _, rfl, d, _, rfl, g H4 s9, _, _, rfl, rfl, ⟨by omega, by omega⟩, _, _, rfl, ?_⟩
          obtain ⟨c1, c2⟩ := ceil_ok (a := l.length) (r := r l) (by omega)
          have cpos : 0 < l.length := List.length_pos_iff.mpr l0
          generalize hc : (l.length + r l - 1) / r l = c at c1 c2
          have ec : (((txs l).length : Nat) : Int) + ((r l : Nat) : Int) - 1 = ((l.length + r l - 1 : Nat) : Int) := by rw [List.length_map]; omega
          have ev : ((((txs l).length : Nat) : Int) + ((r l : Nat) : Int) - 1) / ((r l : Nat) : Int) = (c : Int) := by rw [ec, ← hc]; rfl
          have em : (if ((((txs l).length : Nat) : Int) + ((r l : Nat) : Int) - 1) / ((r l : Nat) : Int) > (n : Int) then ((((txs l).length : Nat) : Int) + ((r l : Nat) : Int) - 1) / ((r l : Nat) : Int) else (n : Int)) = ((max n c : Nat) : Int) := by
            rw [ev]
            by_cases h : c > n
            · rw [if_pos (by omega), Nat.max_eq_right (by omega)]
            · rw [if_neg (by omega), Nat.max_eq_left (by omega)]
          refine hN _ _ ⟨max n c, some (.ref q), ?_, s13.trans s9, fun l' hl' ne => ?_, ?_⟩
          · rw [← em]; rfl
          · rw [tk] at hl'
            rcases List.mem_append.mp hl' with hl' | hl'
            · obtain ⟨h1, h2⟩ := hall l' hl' ne
              exact ⟨h1, Nat.le_trans h2 (Nat.mul_le_mul_right _ (Nat.le_max_left _ _))⟩
            · rw [List.mem_singleton.mp hl']
              exact ⟨r0, Nat.le_trans c1 (Nat.mul_le_mul_right _ (Nat.le_max_right _ _))⟩
          · by_cases h : c ≤ n
            · rw [Nat.max_eq_left h]; exact hmax
            · rw [Nat.max_eq_right (by omega)]
              exact .inr ⟨l, hlm, l0, c2 cpos⟩
end
end BF
set_option Elab.async false
set_option linter.all false
set_option maxRecDepth 100000
set_option maxHeartbeats 4000000
/-! The law's reckoning: most, like. -/
namespace BF
open PySem PySem.Spec PyProof.Rows L2
def spLike : Sp := fun vs H Q _ => ∃ o : Option Nat, vs = [optV o, optV o] ∧ Q (.bl true) H
theorem sc_law_like : FnScope ["_law_told", "_law_due"] ["_law_told", "_law_due"] (defScope s_law_like) := ⟨rfl, rfl, rfl, by decide +kernel, rfl, by decide +kernel, by decide +kernel⟩
def spMostL (K : PySem.W.Frag) : Sp := fun vs H Q _ => ∃ (d t : Addr) (E : List Str) (r : List Str → Nat), vs = [.ref d, .ref t, .int ((r E : Nat) : Int)] ∧ H d = some (.dT (ranksK r (allLots E))) ∧ SqL K H t (txs E) ∧ Mat E r ∧ sortedS E = true ∧ E.length ≤ 7 ∧ (∀ x ∈ E, PyData.strOk x = true) ∧
  ∀ H' o, Same H H' → MostIs E r o → Q (optV o) H'
theorem sc_law_most : FnScope ["_law_ranks_here", "_law_things", "_law_whole", "_law_found", "_law_lot"] ["_law_ranks_here", "_law_things", "_law_whole"] (defScope s_law_most) := ⟨rfl, rfl, rfl, by decide +kernel, rfl, by decide +kernel, by decide +kernel⟩
section
variable {P : Program} {w : World} {K : PySem.W.Frag} {mg : Str → Option Value} {base : Heap}
theorem ok_law_like (T : TX K mg) : FOk P w K mg base 1 ("_law_like", none) ["_law_told", "_law_due"] spLike := by
  refine T.fn 64 (d := d_law_like) rfl rfl rfl sc_law_like (fun vs H Q E h => ?_) (fun _ _ _ _ _ _ us hl => match us, hl with | [_, _], _ => rfl) (fun cdv A outer s H vs Q E hr h => ?_)
  · obtain ⟨o, rfl, _⟩ := h; rfl
  · obtain ⟨o, rfl, kk⟩ := h
    refine ⟨_, pss_one (ps_ret (pe_and (pe_cmpR op_eq (pv 0) (pv 1) (by rfl)) (pe_one (pe_not (pe_callB call_isi (by rfl) T.f_isinstance (by decide +kernel) (pa_cons (pv 0) (pa_cons (pe_bltn (v := .ty "bool") (by rfl) T.f_bool (by decide +kernel) rfl) pa_nil))))))), ?_⟩
    cases o with
    | none => exact ⟨_, rfl, _, rfl, rfl, _, rfl, ifT (decide_eq_true rfl) ⟨_, rfl, _, _, _, _, _, rfl, .ty "bool", .base .non, kit_ty (r := false) (by decide +kernel), _, rfl, kk⟩⟩
    | some n => exact ⟨_, rfl, _, rfl, rfl, _, rfl, ifT (decide_eq_true rfl) ⟨_, rfl, _, _, _, _, _, rfl, .ty "bool", .base (.int _), kit_ty (r := false) (by decide +kernel), _, rfl, kk⟩⟩
theorem ints_dp {H : Hp} : ∀ l : List Int, DpAll K H (l.map V.int) (l.map PyData.int)
  | [] => .nil
  | x :: l => .cons (.int x) (ints_dp l)
theorem ints_shaped (l : List Int) : SeqAt.shaped (.list (l.map PyData.int)) = true := by
  unfold SeqAt.shaped
  rw [Bool.and_eq_true]
  constructor
  · induction l with
    | nil => simp [PyData.canLay0, PyData.canLayAll0]
    | cons x l ih =>
      simp only [PyData.canLay0] at ih ⊢
      simp [PyData.canLay0, PyData.canLayAll0]
      exact ih
  · apply decide_eq_true
    have : PyData.depthAll (l.map PyData.int) ≤ 3 := by
      induction l with
      | nil => simp [PyData.depthAll]
      | cons x l ih => simp [PyData.depthAll, PyData.depth] at ih ⊢; omega
    simp only [PyData.depth]
    omega
theorem ok_law_most (T : TX K mg) : FOk P w K mg base 1 ("_law_most", none) ["_law_ranks_here", "_law_things", "_law_whole"] (spMostL K) := by
  refine T.fn 63 (d := d_law_most) rfl rfl rfl sc_law_most (fun vs H Q E h => ?_) (fun _ _ _ _ _ _ us hl => match us, hl with | [_, _, _], _ => rfl) (fun cdv A outer s H vs Q E hr h => ?_)
  · obtain ⟨d, t, E, r, rfl, _⟩ := h; rfl
  · obtain ⟨d, t, E, r, rfl, hd, ht, m, sE, h7, hok, kk⟩ := h
    have ndN := sc_law_most.nd
    have hu := hu_of hr
    have nd := m.nd
    refine ⟨_, pss_cons (ps_lock (ps_setLc (i := 3) (own := [("_law_lot", 4)]) (g := gName 4) rfl ndN rfl rfl (sw_true rfl rfl rfl rfl) (pi_keys (pv 0)) (blkOk_by (N := ["_law_ranks_here", "_law_things", "_law_whole", "_law_found", "_law_lot"]) (sc := defScope s_law_most) (by decide +kernel)) (fun _ _ _ _ _ => pg_name (i := 4) ndN rfl (Or.inl rfl))
          (fun _ _ _ _ _ => pts_one (pt_cmp (pc_lt (pe_dget hu (pv 0) (pv 4) (fun _ _ => rfl)) (pv 2)))) (fun _ _ _ _ _ => pe_op op_fdiv (pe_sub (pe_callB (crLen K) (by rfl) T.f_len (by decide +kernel) (pa_cons (pv 1) pa_nil)) (pe_callB (crLen K) (by rfl) T.f_len (by decide +kernel) (pa_cons (pv 4) pa_nil))) (pe_sub (pv 2) (pe_dget hu (pv 0) (pv 4) (fun _ _ => rfl)))))) <|
      pss_one (ps_ret (pe_ifExp (pt_cmpR (op_neD hr.units) (pv 3) (pe_lst pa_nil) (by rfl)) (pe_callB (cr_min rfl) (by rfl) T.f_min (by decide +kernel) (pa_cons (pv 3) pa_nil)) pe_non)), ?_⟩
    have lenk : (ranksK r (allLots E)).length = (allLots E).length := by unfold ranksK; rw [List.length_map]
    have l128 := all_len sE nd h7
    have rf : rho E r (fun _ => true) = r E := rho_full
    let g : List Str → Int := fun l => (((E.length - l.length) / (r E - r l) : Nat) : Int)
    let p : List Str → Bool := fun l => decide (r l < r E)
    refine ⟨d, _, hd, True.intro, fun od => ?_⟩
    have hd1 : upd H d (.frz od (.dT (ranksK r (allLots E)))) d = some (.frz od (.dT (ranksK r (allLots E)))) := upd_same
    have back : ∀ H', Same (upd H d (.frz od (.dT (ranksK r (allLots E))))) H' → Same H (upd H' d (.dT (ranksK r (allLots E)))) := fun H' s => unlock hd s
    have ht1 : SqL K (upd H d (.frz od (.dT (ranksK r (allLots E))))) t (txs E) := by
      rcases ht with (h | ⟨o, h⟩) | h
      · exact .inl (.inl (by rw [upd_ne (fun e => by rw [e, hd] at h; cases h)]; exact h))
      · exact .inl (.inr ⟨o, by rw [upd_ne (fun e => by rw [e, hd] at h; cases h)]; exact h⟩)
      · exact .inr h
    generalize upd H d (.frz od (.dT (ranksK r (allLots E)))) = H1 at *
    refine ⟨_, rfl, d, od, rfl, .inr ⟨_, hd1, fun D hD => ?_⟩⟩
    refine ⟨fun i mm H2 => mm = (allLots E).length - i ∧ i ≤ (allLots E).length ∧ Same H1 H2 ∧ H2 D = some (.lst ((((allLots E).take i).filter p).map fun l => V.int (g l))), ⟨_, rfl, Nat.zero_le _, same_new hD, upd_same⟩, ?_⟩
    rintro i mm H2 ⟨rfl, hi, s2, hD2⟩
    by_cases hlt : i < (allLots E).length
    · refine .inr ⟨⟨s2 _ _ hd1, by rw [lenk]; exact hlt⟩, fun H' => Same H1 H' ∧ H' D = some (.lst ((((allLots E).take (i + 1)).filter p).map fun l => V.int (g l))), fun H' q => ⟨(allLots E).length - (i + 1), by omega, rfl, hlt, q⟩, fun x H' yy => ?_⟩
      obtain ⟨rfl, k, v, q, hk, rfl, hq⟩ := yy
      obtain ⟨l, hl, rfl, rfl⟩ := ranks_at hk
      rw [keyL_kV] at hq
      have hlm := List.mem_of_getElem? hl
      have lsub := (all_mem sE nd).mp hlm
      have tk := take_snoc hl
      have g1 : DGet H' d (.ref q) (some (.int ((r l : Nat) : Int))) := .inr ⟨_, keyL l, q, .inr ⟨od, s2 _ _ hd1⟩, rfl, by rw [keyL_kV]; exact hq, (ranks_val hlm).symm⟩
      refine ⟨rfl, _, rfl, _, rfl, d, _, rfl, g1, _, rfl, _, _, rfl, rfl, _, rfl, ?_⟩
      by_cases c : r l < r E
      · refine ifT (decide_eq_true (show ((r l : Nat) : Int) < ((r E : Nat) : Int) by omega)) ?_
        have ll := lsub.length_le
        have rE := m.rk_le (List.Sublist.refl E)
        refine ⟨_, rfl, t, txs E, rfl, .inl (same_seqL s2 ht1), _, rfl, q, txs l, rfl, .inr (SqT.of hq), _, _, rfl, rfl, _, rfl, _, rfl, _, rfl, d, _, rfl, g1, _, _, rfl, rfl, _, _, rfl, rfl, ⟨by omega, by omega⟩, ?_⟩
        refine ⟨_, hD2, by rw [List.length_map]; exact Nat.lt_of_le_of_lt (Nat.le_trans (List.length_filter_le _ _) (by rw [List.length_take]; omega)) (show 128 < sizeLine by rw [sizeLine_eq]; omega), same_put s2 hD, ?_⟩
        have ev : ((((txs E).length : Nat) : Int) - (((txs l).length : Nat) : Int)) / (((r E : Nat) : Int) - ((r l : Nat) : Int)) = g l := by
          show _ = (((E.length - l.length) / (r E - r l) : Nat) : Int)
          rw [List.length_map, List.length_map, Int.natCast_ediv]
          congr 1 <;> omega
        have this : ([l] : List (List Str)).filter p = [l] := by
          rw [List.filter_cons, if_pos (decide_eq_true c)]; rfl
        rw [upd_same, tk, List.filter_append, List.map_append, this, List.map_cons, List.map_nil]
        show some (HO.lst (_ ++ [V.int (((((txs E).length : Nat) : Int) - (((txs l).length : Nat) : Int)) / (((r E : Nat) : Int) - ((r l : Nat) : Int)))])) = _
        rw [ev]
      · refine ifF (decide_eq_false (show ¬ ((r l : Nat) : Int) < ((r E : Nat) : Int) by omega)) ⟨s2, ?_⟩
        rw [hD2, tk, List.filter_append]
        have : ([l] : List (List Str)).filter p = [] := by
          rw [List.filter_cons, if_neg (by simp [p, c])]; rfl
        rw [this, List.append_nil]
    · have e : i = (allLots E).length := by omega
      subst e
      rw [List.take_length] at hD2
      refine .inl ⟨⟨s2 _ _ hd1, by rw [lenk]; exact Nat.le_refl _⟩, s2 _ _ hd1, ?_⟩
      have sB := back H2 s2
      have hD3 : upd H2 d (.dT (ranksK r (allLots E))) D = some (.lst (((allLots E).filter p).map fun l => V.int (g l))) := by
        rw [upd_ne (fun e => by rw [e, hd1] at hD; cases hD)]; exact hD2
      generalize upd H2 d (.dT (ranksK r (allLots E))) = H3 at *
      have em : (((allLots E).filter p).map fun l => V.int (g l)) = (((allLots E).filter p).map g).map V.int := by rw [List.map_map]; rfl
      rw [em] at hD3
      refine ⟨_, rfl, by rw [sizeLine_eq]; simp, fun e he => ?_⟩
      have s4 : Same H3 (upd H3 e (.lst [])) := same_new he
      refine ⟨.list ((((allLots E).filter p).map g).map PyData.int), .list [], .lst (SqL.of (s4 _ _ hD3)) (ints_dp _), .lst (SqL.of upd_same) .nil, ints_shaped _, ints_shaped [], _, rfl, ?_⟩
      have mem_p : ∀ l, l ∈ (allLots E).filter p ↔ l.Sublist E ∧ r l < r E := fun l => by
        rw [List.mem_filter, all_mem sE nd]
        exact ⟨fun h => ⟨h.1, of_decide_eq_true h.2⟩, fun h => ⟨h.1, decide_eq_true h.2⟩⟩
      by_cases z : r E = 0
      · have : (allLots E).filter p = [] := List.filter_eq_nil_iff.mpr fun l hl h => by have := of_decide_eq_true h; omega
        rw [this]
        refine ifF (by simp [PyData.eqv, PyData.eqvAll]) (kk _ none (sB.trans s4) ?_)
        show rho E r full = 0
        rw [rho_full]; exact z
      · have r0 : r [] = 0 := by have := m.rk_le (List.nil_sublist E); simpa using this
        have n0 : [] ∈ (allLots E).filter p := (mem_p []).mpr ⟨List.nil_sublist E, by omega⟩
        refine ifT ?_ ⟨_, rfl, D, ((allLots E).filter p).map g, rfl, SqL.of (s4 _ _ hD3), by rw [List.length_map]; exact List.length_pos_iff.mpr (List.ne_nil_of_mem n0), fun mv hm hmin => ?_⟩
        · obtain ⟨x, rr, ee⟩ := List.exists_cons_of_ne_nil (List.ne_nil_of_mem n0)
          rw [ee]; simp [PyData.eqv, PyData.eqvAll]
        · obtain ⟨l0, hl0, rfl⟩ := List.mem_map.mp hm
          obtain ⟨sub0, lt0⟩ := (mem_p l0).mp hl0
          refine kk _ (some ((E.length - l0.length) / (r E - r l0))) (sB.trans s4) ⟨by rw [rho_full]; exact z, fun X => ?_, fun pk => ?_⟩
          · have sX : (E.filter X).Sublist E := List.filter_sublist
            have eX : crd E (fun x => !X x) = E.length - (E.filter X).length := by
              have := len_two X E
              unfold crd; omega
            rw [rf, eX]
            by_cases c : r (E.filter X) < r E
            · have h1 := hmin _ (List.mem_map_of_mem (f := g) ((mem_p (E.filter X)).mpr ⟨sX, c⟩))
              have h2 : (E.length - l0.length) / (r E - r l0) ≤ (E.length - (E.filter X).length) / (r E - r (E.filter X)) := by
                have : (((E.length - l0.length) / (r E - r l0) : Nat) : Int) ≤ (((E.length - (E.filter X).length) / (r E - r (E.filter X)) : Nat) : Int) := h1
                omega
              refine Nat.le_trans (Nat.mul_le_mul_right _ h2) ?_
              exact Nat.div_mul_le_self _ _
            · have : r E - rho E r X = 0 := by unfold rho; omega
              rw [this]; simp
          · have := pk (mem l0)
            have e1 : crd E (fun x => !mem l0 x) = E.length - l0.length := by
              have h1 := len_two (mem l0) E
              have h2 := crd_sub nd sub0
              unfold crd at h2 ⊢; omega
            rw [rf, rho_mem m sub0, e1] at this
            have h3 := Nat.div_add_mod (E.length - l0.length) (r E - r l0)
            have h4 := Nat.mod_lt (E.length - l0.length) (show 0 < r E - r l0 by omega)
            rw [Nat.add_mul, Nat.one_mul, Nat.mul_comm] at this
            omega
end
end BF
set_option Elab.async false
set_option linter.all false
set_option maxRecDepth 100000
set_option maxHeartbeats 4000000
/-! The law's webs drawn. -/
namespace BF
open PySem PySem.Spec PyProof.Rows L2
abbrev tiesK (es : List Tie) : List (Key × V) := es.map fun e => (Sum.inr e.1, V.ref e.2.1)
def spWebDrawn (K : PySem.W.Frag) : Sp := fun vs H Q _ => ∃ W : Addr, vs = [.ref W, .int 7] ∧ WellAt H W ∧
  ∀ H' p pl td ps (es : List Tie), Dr W H H' → H p = none → H' p = some (.tup [.ref pl, .ref td]) → H' pl = some (.lst (txs ps)) → 1 ≤ ps.length → ps.length ≤ 5 → ps.Nodup → (∀ x ∈ ps, good x = true) → H' td = some (.dK (tiesK es)) → (es.map (·.1)).Nodup → es.length ≤ 7 → (∀ x ∈ es.map (·.1), good x = true) →
    (∀ e ∈ es, H' e.2.1 = some (.tup [.str e.2.2.1, .str e.2.2.2]) ∧ e.2.2.1 ∈ ps ∧ e.2.2.2 ∈ ps) → Q (.ref p) H'
theorem sc_law_web_drawn : FnScope ["_law_well", "_law_top", "_law_places", "_law_ties", "_law_name"] ["_law_well", "_law_top"] (defScope s_law_web_drawn) := ⟨rfl, rfl, rfl, by decide +kernel, rfl, by decide +kernel, by decide +kernel⟩
section
variable {P : Program} {w : World} {K : PySem.W.Frag} {mg : Str → Option Value} {base : Heap}
theorem ok_law_web_drawn (T : TX K mg) : FOk P w K mg base 4 ("_law_web_drawn", none) ["_law_well", "_law_top"] (spWebDrawn K) := by
  refine T.fn 56 (d := d_law_web_drawn) rfl rfl rfl sc_law_web_drawn (fun vs H Q E h => ?_) (fun _ _ _ _ _ _ us hl => match us, hl with | [_, _], _ => rfl) (fun cdv A outer s H vs Q E hr h => ?_)
  · obtain ⟨W, rfl, _⟩ := h; rfl
  · obtain ⟨W, rfl, hW, kk⟩ := h
    have ndN := sc_law_web_drawn.nd
    have hu := hu_of hr
    refine ⟨_, pss_cons (ps_set (i := 2) ndN rfl (Or.inl rfl) (pe_cl (ok_law_names T) hr T.g_law_names (pa_cons (pv 0) (pa_cons (pe_add pe_int (pe_cl (ok_law_draw T) (hr.mono (by omega)) T.g_law_draw (pa_cons (pv 0) (pa_cons pe_int pa_nil)))) pa_nil)))) <|
      pss_cons (ps_set (i := 3) ndN rfl (Or.inl rfl) pe_dnewK) <|
      pss_cons (ps_for PassesOwn.never rfl (pi_list (pe_cl (ok_law_names T) hr T.g_law_names (pa_cons (pv 0) (pa_cons (pe_cl (ok_law_draw T) (hr.mono (by omega)) T.g_law_draw (pa_cons (pv 0) (pa_cons (pe_add (pv 1) pe_int) pa_nil))) pa_nil)))) (pg_name (i := 4) ndN rfl (Or.inl rfl)) <|
        pss_one (ps_dput hu (pv 3) (pv 4) (pe_tup (pa_cons (pe_cl (ok_law_pick T) (hr.mono (by omega)) T.g_law_pick (pa_cons (pv 0) (pa_cons (pv 2) pa_nil))) (pa_cons (pe_cl (ok_law_pick T) (hr.mono (by omega)) T.g_law_pick (pa_cons (pv 0) (pa_cons (pv 2) pa_nil))) pa_nil))) rfl)) <|
      pss_one (ps_ret (pe_tup (pa_cons (pv 2) (pa_cons (pv 3) pa_nil)))), ?_⟩
    refine ⟨_, rfl, _, rfl, W, 5, rfl, by omega, by omega, hW, fun H1 n1 ex1 w1 hn1 => ⟨1, (n1 : Int), rfl, rfl, ?_⟩⟩
    refine ⟨W, 1 + n1, by congr 1, w1, by omega, fun H2 pl ps d2 hpl hpl2 lps ndp gp => ?_⟩
    have d02 : Dr W H H2 := (Dr.mk ex1 w1).trans d2
    intro td htd
    have s3 : Same H2 (upd H2 td (.dK [])) := same_new htd
    have tdH : H td = none := d02.free hW htd
    have d3 : Dr W H (upd H2 td (.dK [])) := d02.put hW tdH
    have htd3 : upd H2 td (.dK []) td = some (.dK (tiesK [])) := upd_same
    have hpl3 := s3 _ _ hpl2
    generalize upd H2 td (.dK []) = H3 at *
    refine ⟨_, rfl, _, rfl, _, rfl, 7, 1, rfl, rfl, W, 8, rfl, by omega, by omega, d3.at_, fun H4 n4 ex4 w4 hn4 => ?_⟩
    refine ⟨W, n4, rfl, w4, by omega, fun H5 nl ns d5 hnl hnl5 lns ndn gn => ⟨nl, rfl, ⟨_, SqL.of hnl5⟩, ?_⟩⟩
    have d35 : Dr W H3 H5 := (Dr.mk ex4 w4).trans d5
    have wpl : pl ≠ W := w1.ne0 hpl
    have wtd : td ≠ W := d02.at_.ne0 htd
    have wnl : nl ≠ W := w4.ne0 hnl
    have nt : nl ≠ td := fun e => by
      have := ex4 _ _ wtd htd3
      rw [← e, hnl] at this; cases this
    have pt : pl ≠ td := fun e => by rw [e, htd] at hpl2; cases hpl2
    refine forL (xs := txs ns) (fun j σ H6 => ∃ (es : List Tie) (o4 : Option V), σ = [some (.ref W), some (.int 7), some (.ref pl), some (.ref td), o4] ∧ Dr W H H6 ∧ H6 nl = some (.lst (txs ns)) ∧ H6 pl = some (.lst (txs ps)) ∧ H6 td = some (.dK (tiesK es)) ∧ es.map (·.1) = ns.take j ∧ ∀ e ∈ es, H6 e.2.1 = some (.tup [.str e.2.2.1, .str e.2.2.2]) ∧ e.2.2.1 ∈ ps ∧ e.2.2.2 ∈ ps)
      (fun j σ H6 ⟨_, _, _, _, h, _⟩ => SqL.of h) ⟨[], none, rfl, d3.trans d35, hnl5, d35.ex _ _ wpl hpl3, d35.ex _ _ wtd htd3, rfl, fun e he => by cases he⟩ ?_ ?_
    · rintro σ H6 ⟨es, o4, rfl, d6, hnl6, hpl6, htd6, hes, hall⟩
      rw [List.length_map, List.take_length] at hes
      refine ⟨_, rfl, _, rfl, len2, fun p hp => ?_⟩
      have s7 : Same H6 (upd H6 p (.tup [.ref pl, .ref td])) := same_new hp
      have pH := d6.free hW hp
      refine kk _ p pl td ps es (d6.put hW pH) pH upd_same (s7 _ _ hpl6) (by omega) (by omega) ndp gp (s7 _ _ htd6) (by rw [hes]; exact ndn) ?_ (fun x hx => gn x (by rw [← hes]; exact hx)) fun e he => ⟨s7 _ _ (hall e he).1, (hall e he).2⟩
      have := congrArg List.length hes
      rw [List.length_map] at this
      omega
    · rintro j v σ H6 hj ⟨es, o4, rfl, d6, hnl6, hpl6, htd6, hes, hall⟩ N hN
      obtain ⟨x, hx, rfl⟩ := txs_at hj
      refine ⟨_, rfl, _, rfl, W, _, rfl, d6.at_, .inr ⟨pl, ps, rfl, hpl6, by omega, by omega, fun H7 a d7 ha => ?_⟩⟩
      have hpl7 := d7.ex _ _ wpl hpl6
      refine ⟨_, rfl, _, rfl, W, _, rfl, d7.at_, .inr ⟨pl, ps, rfl, hpl7, by omega, by omega, fun H8 b d8 hb => ⟨len2, fun tt htt => ?_⟩⟩⟩
      have d68 := d7.trans d8
      have d08 := d6.trans d68
      have s9 : Same H8 (upd H8 tt (.tup [.str a, .str b])) := same_new htt
      have htt9 : upd H8 tt (.tup [.str a, .str b]) tt = some (.tup [.str a, .str b]) := upd_same
      have d09 : Dr W H (upd H8 tt (.tup [.str a, .str b])) := d08.put hW (d08.free hW htt)
      have d69 : Dr W H6 (upd H8 tt (.tup [.str a, .str b])) := d68.put d6.at_ (d68.free d6.at_ htt)
      generalize upd H8 tt (.tup [.str a, .str b]) = H9 at *
      have htd9 := d69.ex _ _ wtd htd6
      have nx : valV (tiesK es) (Sum.inr x : Key) = none := by
        apply valV_keys
        have e1 : (tiesK es).map (·.1) = (es.map (·.1)).map Sum.inr := by rw [List.map_map, List.map_map]; rfl
        rw [e1, hes]
        intro q
        obtain ⟨y, hy, e⟩ := List.mem_map.mp q
        cases e
        exact not_in_take ndn hx hy
      have les : es.length ≤ 7 := by
        have := congrArg List.length hes
        rw [List.length_map, List.length_take] at this
        omega
      refine ⟨_, rfl, _, rfl, td, _, rfl, DPut.k (k := .inr x) htd9 (by rw [List.length_map, sizeLine_eq]; omega), ?_⟩
      rw [putK_new _ nx]
      have keep : ∀ {c : Addr} {o : HO}, H9 c = some o → (∀ k, o ≠ .dK k) → upd H9 td (.dK (tiesK es ++ [(Sum.inr x, V.ref tt)])) c = some o := fun h n => by
        rw [upd_ne (fun z => by rw [z, htd9] at h; exact n _ (Option.some.inj h).symm)]; exact h
      refine hN _ _ ⟨es ++ [(x, tt, a, b)], _, rfl, d09.put hW tdH, keep (d69.ex _ _ wnl hnl6) (fun _ e => nomatch e), keep (d69.ex _ _ wpl hpl6) (fun _ e => nomatch e), ?_, ?_, fun e he => ?_⟩
      · rw [upd_same]; exact congrArg (fun z => some (HO.dK z)) (List.map_append (f := fun e : Tie => ((Sum.inr e.1 : Key), V.ref e.2.1)) (l₁ := es) (l₂ := [(x, tt, a, b)])).symm
      · rw [List.map_append, hes, take_snoc hx]; rfl
      · rcases List.mem_append.mp he with he | he
        · obtain ⟨h1, h2⟩ := hall e he
          have eW : e.2.1 ≠ W := d6.at_.ne h1 fun a b c q => nomatch q
          exact ⟨keep (d69.ex _ _ eW h1) (fun _ e => nomatch e), h2⟩
        · rw [List.mem_singleton.mp he]
          exact ⟨keep htt9 (fun _ e => nomatch e), ha, hb⟩
end
end BF
set_option Elab.async false
set_option linter.all false
set_option maxRecDepth 100000
set_option maxHeartbeats 4000000
/-! Rows over two by the law: kept masks, greatest first. -/
namespace BF
def slt (a b c d : Nat) : List Nat := [a, b, c, d].filter fun x => !(x == 0)
def redm : List Nat → Nat → Nat
  | [], m => m
  | k :: ks, m => redm ks (if m ^^^ k < m then m ^^^ k else m)
def spB : List Nat → Nat → Bool
  | [], v => v == 0
  | x :: l, v => spB l v || spB l (v ^^^ x)
def okS (a b c d : Nat) : Bool := (a == 0 || (decide (8 ≤ a) && decide (a < 16))) && (b == 0 || (decide (4 ≤ b) && decide (b < 8))) && (c == 0 || (decide (2 ≤ c) && decide (c < 4))) && decide (d < 2)
def putQ (a b c d r : Nat) : Nat × Nat × Nat × Nat := if 8 ≤ r then (r, b, c, d) else if 4 ≤ r then (a, r, c, d) else if 2 ≤ r then (a, b, r, d) else (a, b, c, r)
def insD (r : Nat) : List Nat → List Nat
  | [] => [r]
  | x :: l => if x < r then r :: x :: l else x :: insD r l
def chkM (a b c d m : Nat) : Bool :=
  let r := redm (slt a b c d) m
  let q := putQ a b c d r
  decide (r < 16) && (!(spB (slt a b c d) m) || r == 0) && (r == 0 || (okS q.1 q.2.1 q.2.2.1 q.2.2.2 && slt q.1 q.2.1 q.2.2.1 q.2.2.2 == insD r (slt a b c d)))
def chkAll : Bool := (List.range 16).all fun a => (List.range 8).all fun b => (List.range 4).all fun c => (List.range 2).all fun d => !okS a b c d || (List.range 16).all fun m => chkM a b c d m
theorem chk_all : chkAll = true := by decide +kernel
def KeptOk (ks : List Nat) : Prop := ∃ a b c d, okS a b c d = true ∧ ks = slt a b c d
theorem okS_lt {a b c d : Nat} (h : okS a b c d = true) : a < 16 ∧ b < 8 ∧ c < 4 ∧ d < 2 := by
  unfold okS at h
  simp only [Bool.and_eq_true, Bool.or_eq_true, beq_iff_eq, decide_eq_true_eq] at h
  omega
theorem chk_at {a b c d m : Nat} (h : okS a b c d = true) (hm : m < 16) : chkM a b c d m = true := by
  obtain ⟨h1, h2, h3, h4⟩ := okS_lt h
  have q := chk_all
  unfold chkAll at q
  have q1 := List.all_eq_true.mp q a (List.mem_range.mpr h1)
  have q2 := List.all_eq_true.mp q1 b (List.mem_range.mpr h2)
  have q3 := List.all_eq_true.mp q2 c (List.mem_range.mpr h3)
  have q4 := List.all_eq_true.mp q3 d (List.mem_range.mpr h4)
  rw [h] at q4
  exact List.all_eq_true.mp q4 m (List.mem_range.mpr hm)
theorem KeptOk.nil : KeptOk [] := ⟨0, 0, 0, 0, rfl, rfl⟩
theorem KeptOk.red {ks : List Nat} {m : Nat} (h : KeptOk ks) (hm : m < 16) : redm ks m < 16 ∧ (spB ks m = true → redm ks m = 0) ∧ (redm ks m ≠ 0 → KeptOk (insD (redm ks m) ks)) := by
  obtain ⟨a, b, c, d, h, rfl⟩ := h
  have q := chk_at h hm
  unfold chkM at q
  simp only [Bool.and_eq_true, Bool.or_eq_true, beq_iff_eq, decide_eq_true_eq, Bool.not_eq_true'] at q
  obtain ⟨⟨q1, q2⟩, q3⟩ := q
  refine ⟨q1, fun e => ?_, fun n => ?_⟩
  · rcases q2 with q2 | q2
    · rw [e] at q2; cases q2
    · exact q2
  · rcases q3 with q3 | ⟨q3, q4⟩
    · exact absurd q3 n
    · exact ⟨_, _, _, _, q3, q4.symm⟩
theorem spB_iff : ∀ {l : List Nat} {v : Nat}, spB l v = true ↔ Spn id l v
  | [], v => by unfold spB; exact beq_iff_eq
  | x :: l, v => by
    unfold spB
    rw [Bool.or_eq_true, spB_iff (l := l), spB_iff (l := l)]
    exact Iff.rfl
theorem red_diff : ∀ {ks : List Nat} {m : Nat}, Spn id ks (m ^^^ redm ks m)
  | [], m => by show m ^^^ m = 0; exact Nat.xor_self _
  | k :: ks, m => by
    unfold redm
    split
    · refine .inr ?_
      have := red_diff (ks := ks) (m := m ^^^ k)
      show Spn id ks (_ ^^^ k)
      rw [Nat.xor_assoc, Nat.xor_comm _ k, ← Nat.xor_assoc]; exact this
    · exact .inl red_diff
theorem insD_mem {r x : Nat} : ∀ {l : List Nat}, x ∈ insD r l ↔ x = r ∨ x ∈ l
  | [] => by unfold insD; simp
  | y :: l => by
    unfold insD
    split
    · exact List.mem_cons
    · rw [List.mem_cons, insD_mem (l := l), List.mem_cons]
      exact ⟨fun h => h.elim (fun h => .inr (.inl h)) fun h => h.elim .inl fun h => .inr (.inr h), fun h => h.elim (fun h => .inr (.inl h)) fun h => h.elim .inl fun h => .inr (.inr h)⟩
theorem spn_mem {l m : List Nat} (h : ∀ x ∈ l, Spn id m x) {v : Nat} (q : Spn id l v) : Spn id m v := Spn.least (R := Spn id m) (Spn.zero _) Spn.add h q
theorem xor_swap {a b : Nat} : a ^^^ (a ^^^ b) = b := by rw [← Nat.xor_assoc, Nat.xor_self, Nat.zero_xor]
/-- the kept masks span what the rows span, and a further row is nought by them or kept -/
theorem kept_step {α : Type} {w : α → Nat} {pre : List α} {ks : List Nat} {t : α} (h : ∀ v, Spn w pre v ↔ Spn id ks v) : ∀ v, Spn w (t :: pre) v ↔ Spn id (insD (redm ks (w t)) ks) v := fun v => by
  have a1 : ∀ u, Spn w (t :: pre) u ↔ Spn id (w t :: ks) u := fun u => by
    show (Spn w pre u ∨ Spn w pre (u ^^^ w t)) ↔ (Spn id ks u ∨ Spn id ks (u ^^^ w t))
    rw [h, h]
  rw [a1]
  have rd := red_diff (ks := ks) (m := w t)
  have up : ∀ {u}, Spn id ks u → Spn id (insD (redm ks (w t)) ks) u := fun q => spn_mem (fun x hx => Spn.gen (w := id) (insD_mem.mpr (.inr hx))) q
  constructor
  · refine spn_mem fun x hx => ?_
    rcases List.mem_cons.mp hx with rfl | hx
    · have := Spn.add (up rd) (Spn.gen (w := id) (insD_mem.mpr (.inl rfl)))
      show Spn id _ (w t)
      rw [id, Nat.xor_assoc, Nat.xor_self, Nat.xor_zero] at this
      exact this
    · exact Spn.gen (w := id) (insD_mem.mpr (.inr hx))
  · refine spn_mem fun x hx => ?_
    rcases insD_mem.mp hx with rfl | hx
    · have g : Spn id (w t :: ks) (w t) := Spn.gen (w := id) List.mem_cons_self
      have := Spn.add g (.inl rd : Spn id (w t :: ks) _)
      rw [xor_swap] at this
      exact this
    · exact .inl (Spn.gen (w := id) hx)
theorem kept_nought {α : Type} {w : α → Nat} {pre : List α} {ks : List Nat} {t : α} (ok : KeptOk ks) (hw : w t < 16) (h : ∀ v, Spn w pre v ↔ Spn id ks v) : redm ks (w t) = 0 ↔ clR w pre t := by
  show _ ↔ Spn w pre (w t)
  rw [h]
  constructor
  · intro e
    have := red_diff (ks := ks) (m := w t)
    rw [e, Nat.xor_zero] at this; exact this
  · intro q
    exact (ok.red hw).2.1 (spB_iff.mpr q)
end BF
set_option Elab.async false
set_option linter.all false
set_option maxRecDepth 100000
set_option maxHeartbeats 4000000
/-! The law's reckoning: rows apart. -/
namespace BF
open PySem PySem.Spec PyProof.Rows L2
abbrev masksK (E : List Str) (w : Str → Nat) : List (Key × V) := E.map fun x => (Sum.inr x, V.int ((w x : Nat) : Int))
abbrev intsV (ks : List Nat) : List V := ks.map fun k => V.int ((k : Nat) : Int)
def spApart (K : PySem.W.Frag) : Sp := fun vs H Q _ => ∃ (d l : Addr) (E xs : List Str) (w : Str → Nat), vs = [.ref d, .ref l] ∧ H d = some (.dK (masksK E w)) ∧ SqT K H l (txs xs) ∧ xs.length ≤ 7 ∧ (∀ x ∈ xs, x ∈ E) ∧ (∀ x ∈ E, w x < 16) ∧
  ∀ H' b, Same H H' → (b = true ↔ indA (clR w) [] xs) → Q (.bl b) H'
theorem sc_law_apart : FnScope ["_law_masks", "_law_lot", "_law_kept", "_law_thing", "_law_mask", "_law_one"] ["_law_masks", "_law_lot"] (defScope s_law_apart) := ⟨rfl, rfl, rfl, by decide +kernel, rfl, by decide +kernel, by decide +kernel⟩
theorem masks_val {w : Str → Nat} {x : Str} : ∀ {E : List Str}, x ∈ E → valV (masksK E w) (Sum.inr x : Key) = some (.int ((w x : Nat) : Int))
  | y :: E, h => by
    by_cases e : y = x
    · subst e; exact valV_pos rfl
    · show valV ((Sum.inr y, V.int ((w y : Nat) : Int)) :: masksK E w) _ = _
      rw [valV_neg (fun z => e (Sum.inr.inj z))]
      rcases List.mem_cons.mp h with rfl | h
      · exact absurd rfl e
      · exact masks_val h
theorem redm_app : ∀ {ks : List Nat} {k m : Nat}, redm (ks ++ [k]) m = if redm ks m ^^^ k < redm ks m then redm ks m ^^^ k else redm ks m
  | [], k, m => rfl
  | x :: ks, k, m => by
    show redm (ks ++ [k]) _ = _
    rw [redm_app]; rfl
def chkPw : Bool := (List.range 16).all fun a => (List.range 8).all fun b => (List.range 4).all fun c => (List.range 2).all fun d => !okS a b c d || decide ((slt a b c d).Pairwise (· ≥ ·))
theorem chk_pw : chkPw = true := by decide +kernel
theorem KeptOk.pw {ks : List Nat} (h : KeptOk ks) : ks.Pairwise (· ≥ ·) := by
  obtain ⟨a, b, c, d, h, rfl⟩ := h
  obtain ⟨h1, h2, h3, h4⟩ := okS_lt h
  have q := chk_pw
  unfold chkPw at q
  have q1 := List.all_eq_true.mp q a (List.mem_range.mpr h1)
  have q2 := List.all_eq_true.mp q1 b (List.mem_range.mpr h2)
  have q3 := List.all_eq_true.mp q2 c (List.mem_range.mpr h3)
  have q4 := List.all_eq_true.mp q3 d (List.mem_range.mpr h4)
  rw [h] at q4
  exact of_decide_eq_true q4
theorem insD_perm {r : Nat} : ∀ {l : List Nat}, (insD r l).Perm (l ++ [r])
  | [] => .refl _
  | x :: l => by
    unfold insD
    split
    · exact (List.perm_append_comm (l₁ := [r]) (l₂ := x :: l))
    · exact (insD_perm (l := l)).cons x
theorem KeptOk.len {ks : List Nat} (h : KeptOk ks) : ks.length ≤ 4 := by
  obtain ⟨a, b, c, d, h, rfl⟩ := h
  exact List.length_filter_le _ _
theorem int_pw {l : List Nat} (h : l.Pairwise (· ≥ ·)) : (l.map fun k : Nat => (k : Int)).Pairwise (· ≥ ·) := by
  rw [List.pairwise_map]
  exact h.imp fun h => by omega
theorem desc_eq {l m : List Int} (p : l.Perm m) (h1 : l.Pairwise (· ≥ ·)) (h2 : m.Pairwise (· ≥ ·)) : l = m :=
  p.eq_of_pairwise (fun a b _ _ x y => by omega) h1 h2
section
variable {P : Program} {w : World} {K : PySem.W.Frag} {mg : Str → Option Value} {base : Heap}
theorem ok_law_apart (T : TX K mg) : FOk P w K mg base 1 ("_law_apart", none) ["_law_masks", "_law_lot"] (spApart K) := by
  refine T.fn 55 (d := d_law_apart) rfl rfl rfl sc_law_apart (fun vs H Q E h => ?_) (fun _ _ _ _ _ _ us hl => match us, hl with | [_, _], _ => rfl) (fun cdv A outer s H vs Q E hr h => ?_)
  · obtain ⟨d, l, E, xs, w, rfl, _⟩ := h; rfl
  · obtain ⟨d, l, E, xs, ww, rfl, hd, hl, h7, sub, h16, kk⟩ := h
    have ndN := sc_law_apart.nd
    have hu := hu_of hr
    refine ⟨_, pss_cons (ps_set (i := 2) ndN rfl (Or.inl rfl) (pe_lst pa_nil)) <|
      pss_cons (ps_for PassesOwn.never rfl (pi_tup (pv 1)) (pg_name (i := 3) ndN rfl (Or.inl rfl)) <|
        pss_cons (ps_set (i := 4) ndN rfl (Or.inl rfl) (pe_dget hu (pv 0) (pv 3) (fun _ _ => rfl))) <|
        pss_cons (ps_for PassesOwn.never rfl (pi_list (pv 2)) (pg_name (i := 5) ndN rfl (Or.inl rfl)) <|
          pss_one (ps_set (i := 4) ndN rfl (Or.inl rfl) (pe_callB (call_min2 rfl) (by rfl) T.f_min (by decide +kernel) (pa_cons (pv 4) (pa_cons (pe_op op_xor (pv 4) (pv 5)) pa_nil))))) <|
        pss_cons (ps_if (pt_cmp (pc_eqI (pv 4) pe_int)) (pss_one (ps_ret pe_bl)) pss_nil) <|
        pss_one (ps_set (i := 2) ndN rfl (Or.inl rfl) (pe_callBK (cr_sortedRev (b := true)) (by rfl) T.f_sorted (by decide +kernel) (pa_cons (pe_op op_cat (pv 2) (pe_lst (pa_cons (pv 4) pa_nil))) pa_nil) (pk_cons pe_bl pk_nil)))) <|
      pss_one (ps_ret pe_bl), ?_⟩
    refine ⟨by rw [sizeLine_eq]; simp, fun f hf => ?_⟩
    have s1 : Same H (upd H f (.lst [])) := same_new hf
    have hf1 : upd H f (.lst []) f = some (.lst (intsV [])) := upd_same
    generalize upd H f (.lst []) = H1 at *
    refine ⟨_, rfl, l, rfl, ⟨_, same_seqT s1 hl⟩, ?_⟩
    refine forJ (R := Same) (H0 := H1) (src_tup fun H' r => same_seqT (s1.trans r) hl) (fun j σ H3 => (∃ ks q o3 o4 o5, σ = [some (.ref d), some (.ref l), some (.ref q), o3, o4, o5] ∧ H3 q = some (.lst (intsV ks)) ∧ KeptOk ks ∧ (∀ v, Spn ww (xs.take j).reverse v ↔ Spn id ks v) ∧ (indA (clR ww) [] xs ↔ indA (clR ww) (xs.take j).reverse (xs.drop j))) ∧ Same H1 H3) (fun j σ H3 p => p.2) ⟨⟨[], f, none, none, none, rfl, hf1, KeptOk.nil, fun v => Iff.rfl, Iff.rfl⟩, Same.refl _⟩ ?_ ?_
    · rintro σ H3 ⟨⟨ks, q, o3, o4, o5, rfl, hq, ok, sp, ii⟩, s3⟩
      refine kk _ true (s1.trans s3) ⟨fun _ => ii.mpr ?_, fun _ => rfl⟩
      rw [List.length_map, List.drop_length]; trivial
    · rintro j v σ H3 hj ⟨⟨ks, q, o3, o4, o5, rfl, hq, ok, sp, ii⟩, s3⟩ N hN
      obtain ⟨x, hx, rfl⟩ := txs_at hj
      have xE := sub x (List.mem_of_getElem? hx)
      have g1 := DGet.k (k := .inr x) ((s1.trans s3) _ _ hd)
      rw [masks_val xE] at g1
      refine ⟨_, rfl, _, rfl, d, _, rfl, g1, ?_⟩
      refine ⟨_, rfl, q, rfl, ⟨_, SqL.of hq⟩, ?_⟩
      refine forJ (R := Same) (H0 := H3) (src_list fun H' r => SqL.of (r _ _ hq)) (fun i σ H4 => (∃ o5, σ = [some (.ref d), some (.ref l), some (.ref q), some (.str x), some (.int ((redm (ks.take i) (ww x) : Nat) : Int)), o5]) ∧ Same H3 H4) (fun i σ H4 p => p.2) ⟨⟨o5, rfl⟩, Same.refl _⟩ ?_ ?_
      · rintro σ H4 ⟨⟨o5, rfl⟩, s4⟩
        rw [List.length_map, List.take_length]
        have rd := ok.red (h16 x xE)
        have kn := kept_nought ok (h16 x xE) sp
        have rv1 : (xs.take (j + 1)).reverse = x :: (xs.take j).reverse := by rw [take_snoc hx, List.reverse_append]; rfl
        rw [drop_at hx] at ii
        refine ⟨_, rfl, _, _, rfl, rfl, _, rfl, ?_⟩
        by_cases z : redm ks (ww x) = 0
        · refine ifT (decide_eq_true (by rw [z]; rfl)) ?_
          refine kk _ false (s1.trans (s3.trans s4)) ⟨fun e => (by cases e), fun q => ?_⟩
          exact absurd (kn.mp z) (ii.mp q).1
        · refine ifF (decide_eq_false (fun e => z (by omega))) ?_
          refine ⟨_, rfl, _, rfl, by rw [sizeLine_eq]; simp, fun e he => ?_⟩
          have s5 : Same H4 (upd H4 e (.lst [.int ((redm ks (ww x) : Nat) : Int)])) := same_new he
          have he5 : upd H4 e (.lst [.int ((redm ks (ww x) : Nat) : Int)]) e = some (.lst [.int ((redm ks (ww x) : Nat) : Int)]) := upd_same
          generalize upd H4 e (.lst [.int ((redm ks (ww x) : Nat) : Int)]) = H5 at *
          have lk := ok.len
          refine ⟨q, e, intsV ks, _, rfl, rfl, s5 _ _ (s4 _ _ hq), he5, by rw [List.length_map, sizeLine_eq]; simp; omega, fun c hc => ?_⟩
          have s6 : Same H5 (upd H5 c (.lst (intsV ks ++ [.int ((redm ks (ww x) : Nat) : Int)]))) := same_new hc
          have ei : intsV ks ++ [.int ((redm ks (ww x) : Nat) : Int)] = ((ks ++ [redm ks (ww x)]).map fun k : Nat => (k : Int)).map V.int := by
            rw [List.map_map, List.map_append]; rfl
          have hc6 : upd H5 c (.lst (intsV ks ++ [.int ((redm ks (ww x) : Nat) : Int)])) c = some (.lst (((ks ++ [redm ks (ww x)]).map fun k : Nat => (k : Int)).map V.int)) := by rw [upd_same, ei]
          generalize upd H5 c (.lst (intsV ks ++ [.int ((redm ks (ww x) : Nat) : Int)])) = H6 at *
          refine ⟨c, _, rfl, rfl, SqL.of hc6, fun ns' p pm od hp => ?_⟩
          have okn := rd.2.2 z
          have en : ns' = (insD (redm ks (ww x)) ks).map fun k : Nat => (k : Int) :=
            desc_eq (pm.trans (insD_perm.symm.map _)) od (int_pw okn.pw)
          have s7 : Same H6 (upd H6 p (.lst (ns'.map V.int))) := same_new hp
          refine hN _ _ ⟨⟨insD (redm ks (ww x)) ks, p, _, _, _, rfl, ?_, okn, ?_, ?_⟩, s3.trans (s4.trans (s5.trans (s6.trans s7)))⟩
          · rw [upd_same, en, List.map_map]; rfl
          · rw [rv1]; exact kept_step sp
          · rw [rv1]
            exact ii.trans ⟨fun q => q.2, fun q => ⟨fun c => z (kn.mpr c), q⟩⟩
      · rintro i v σ H4 hi ⟨⟨o5, rfl⟩, s4⟩ N2 hN2
        rw [List.getElem?_map] at hi
        obtain ⟨k, hk, rfl⟩ := Option.map_eq_some_iff.mp hi
        refine ⟨_, rfl, _, rfl, _, rfl, _, _, rfl, rfl, _, _, rfl, ?_⟩
        have eb : Builtin.bitXor ((redm (ks.take i) (ww x) : Nat) : Int) (k : Int) = ((redm (ks.take i) (ww x) ^^^ k : Nat) : Int) := by
          rw [Bits.bitXor_pp (by omega) (by omega)]; rfl
        have em : (if Builtin.bitXor ((redm (ks.take i) (ww x) : Nat) : Int) (k : Int) < ((redm (ks.take i) (ww x) : Nat) : Int) then Builtin.bitXor ((redm (ks.take i) (ww x) : Nat) : Int) (k : Int) else ((redm (ks.take i) (ww x) : Nat) : Int)) = ((redm (ks.take (i + 1)) (ww x) : Nat) : Int) := by
          rw [take_snoc hk, redm_app, eb]
          by_cases h : redm (ks.take i) (ww x) ^^^ k < redm (ks.take i) (ww x)
          · rw [if_pos h, if_pos (by omega)]
          · rw [if_neg h, if_neg (by omega)]
        refine hN2 _ _ ⟨⟨some (.int (k : Int)), ?_⟩, s4⟩
        rw [← em]; rfl
end
end BF
set_option Elab.async false
set_option linter.all false
set_option maxRecDepth 100000
set_option maxHeartbeats 4000000
/-! The law's reckoning: rings round. -/
namespace BF
open PySem PySem.Spec PyProof.Rows L2
def spRound (K : PySem.W.Frag) : Sp := fun vs H Q _ => ∃ (d l : Addr) (es : List Tie) (xs : List Str), vs = [.ref d, .ref l] ∧ H d = some (.dK (tiesK es)) ∧ (∀ e ∈ es, H e.2.1 = some (.tup [.str e.2.2.1, .str e.2.2.2])) ∧ SqT K H l (txs xs) ∧ xs.length ≤ 7 ∧ (∀ x ∈ xs, x ∈ es.map (·.1)) ∧
  ∀ H' b, Same H H' → (b = false ↔ indA (clW (endsOf es)) [] xs) → Q (.bl b) H'
theorem sc_law_rings_round : FnScope ["_law_ties", "_law_lot", "_law_mark", "_law_tie", "_law_place", "_law_one", "_law_other"] ["_law_ties", "_law_lot"] (defScope s_law_rings_round) := ⟨rfl, rfl, rfl, by decide +kernel, rfl, by decide +kernel, by decide +kernel⟩
theorem own_put (qs : List Str) (nd : qs.Nodup) (p : Str) : ∃ qs' : List Str, putK (dictF qs fun q => .str (id q)) (Sum.inr p : Key) (.str p) = dictF qs' (fun q => .str (id q)) ∧ qs'.Nodup ∧ p ∈ qs' ∧ (∀ q ∈ qs, q ∈ qs') ∧ qs'.length ≤ qs.length + 1 := by
  by_cases h : p ∈ qs
  · refine ⟨qs, ?_, nd, h, fun q h => h, by omega⟩
    rw [dictF_put h]
    refine dictF_congr fun q _ => ?_
    by_cases e : q = p
    · rw [if_pos e, e]; rfl
    · rw [if_neg e]
  · refine ⟨qs ++ [p], ?_, List.nodup_append.mpr ⟨nd, by simp, fun a ha b hb e => by
      have : b = p := by simpa using hb
      subst this; subst e; exact h ha⟩, by simp, fun q h => List.mem_append_left _ h, by simp⟩
    rw [putK_new _ (dictF_none h)]
    exact (List.map_append (f := fun q : Str => ((Sum.inr q : Key), V.str q)) (l₁ := qs) (l₂ := [p])).symm
section
variable {P : Program} {w : World} {K : PySem.W.Frag} {mg : Str → Option Value} {base : Heap}
theorem ok_law_rings_round (T : TX K mg) : FOk P w K mg base 1 ("_law_rings_round", none) ["_law_ties", "_law_lot"] (spRound K) := by
  refine T.fn 54 (d := d_law_rings_round) rfl rfl rfl sc_law_rings_round (fun vs H Q E h => ?_) (fun _ _ _ _ _ _ us hl => match us, hl with | [_, _], _ => rfl) (fun cdv A outer s H vs Q E hr h => ?_)
  · obtain ⟨d, l, es, xs, rfl, _⟩ := h; rfl
  · obtain ⟨d, l, es, xs, rfl, hd, het, hx, h7, hin, k⟩ := h
    have hu := hu_of hr
    have nd := sc_law_rings_round.nd
    refine ⟨_, pss_cons (ps_set (i := 2) nd rfl (Or.inl rfl) pe_dnewK) <|
      pss_cons (ps_for PassesOwn.never rfl (pi_tup (pv 1)) (pg_name (i := 3) nd rfl (Or.inl rfl)) <|
        pss_one (ps_for PassesOwn.never rfl (pi_tup (pe_dget hu (pv 0) (pv 3) (fun _ _ => rfl))) (pg_name (i := 4) nd rfl (Or.inl rfl)) <|
          pss_one (ps_dput hu (pv 2) (pv 4) (pv 4) rfl))) <|
      pss_cons (ps_for PassesOwn.never rfl (pi_tup (pv 1)) (pg_name (i := 3) nd rfl (Or.inl rfl)) <|
        pss_cons (ps_par (i := 5) (j := 6) rfl nd rfl rfl (by decide) rfl rfl (pa_cons (pe_dget hu (pv 2) (pe_ix ix_tup (pe_dget hu (pv 0) (pv 3) (fun _ _ => rfl)) pe_int (fun _ _ => rfl)) (fun _ _ => rfl)) (pa_cons (pe_dget hu (pv 2) (pe_ix ix_tup (pe_dget hu (pv 0) (pv 3) (fun _ _ => rfl)) pe_int (fun _ _ => rfl)) (fun _ _ => rfl)) pa_nil)) rfl) <|
        pss_cons (ps_if (pt_cmpR op_eq (pv 5) (pv 6) (by rfl)) (pss_one (ps_ret pe_bl)) pss_nil) <|
        pss_one (ps_for PassesOwn.never rfl (pi_list (pe_callTy (call_list_dK rfl) (by rfl) T.f_list (by decide +kernel) (pa_cons (pv 2) pa_nil))) (pg_name (i := 4) nd rfl (Or.inl rfl)) <|
          pss_one (ps_if (pt_cmpR op_eq (pe_dget hu (pv 2) (pv 4) (fun _ _ => rfl)) (pv 5) (by rfl)) (pss_one (ps_dput hu (pv 2) (pv 4) (pv 6) rfl)) pss_nil))) <|
      pss_one (ps_ret pe_bl), ?_⟩
    intro D hD
    have s1 : Same H (upd H D (.dK [])) := same_new hD
    have hD1 : upd H D (.dK []) D = some (.dK (dictF [] fun q => .str (id q))) := upd_same
    generalize upd H D (.dK []) = H1 at *
    refine ⟨_, rfl, l, rfl, ⟨_, same_seqT s1 hx⟩, ?_⟩
    refine forJ (R := Same) (H0 := H) (src_tup fun H' r => same_seqT r hx) (fun i σ H2 => (∃ o3 o4, σ = [some (.ref d), some (.ref l), some (.ref D), o3, o4, none, none]) ∧ Same H H2 ∧
      ∃ qs : List Str, H2 D = some (.dK (dictF qs fun q => .str (id q))) ∧ qs.Nodup ∧ qs.length ≤ 2 * i ∧ ∀ t ∈ xs.take i, (endsOf es t).1 ∈ qs ∧ (endsOf es t).2 ∈ qs) (fun i σ H1 p => p.2.1) ⟨⟨none, none, rfl⟩, s1, [], hD1, List.nodup_nil, by simp, fun t ht => (by cases ht)⟩ ?_ ?_
    · rintro σ H2 ⟨⟨o3, o4, rfl⟩, s2, ps, h2, ndp, lps, hps⟩
      rw [List.length_map] at lps
      rw [List.length_map, List.take_length] at hps
      refine ⟨_, rfl, l, rfl, ⟨_, same_seqT s2 hx⟩, ?_⟩
      refine forJ (R := Same) (H0 := H) (src_tup fun H' r => same_seqT r hx) (fun i σ H3 => (∃ o3 o4 o5 o6, σ = [some (.ref d), some (.ref l), some (.ref D), o3, o4, o5, o6]) ∧ Same H H3 ∧
        ∃ f, H3 D = some (.dK (dictF ps fun q => .str (f q))) ∧ MarkInv (endsOf es) ps (xs.take i).reverse f ∧ (indA (clW (endsOf es)) [] xs ↔ indA (clW (endsOf es)) (xs.take i).reverse (xs.drop i))) (fun i σ H1 p => p.2.1) ⟨⟨_, _, _, _, rfl⟩, s2, id, h2, MarkInv.start _ _, Iff.rfl⟩ ?_ ?_
      · rintro σ H3 ⟨⟨o3, o4, o5, o6, rfl⟩, s3, f, h3, M, ii⟩
        refine k H3 false s3 ⟨fun _ => ii.mpr ?_, fun _ => rfl⟩
        rw [List.length_map, List.drop_length]; trivial
      · rintro i x σ H3 hi ⟨⟨o3, o4, o5, o6, rfl⟩, s3, f, h3, M, ii⟩ N hN
        obtain ⟨t, ht, rfl⟩ := txs_at hi
        have htx := List.mem_of_getElem? ht
        obtain ⟨e, hes, _, hee, hval⟩ := ends_at (hin t htx)
        obtain ⟨hp1, hp2⟩ := hps t htx
        have htup3 := s3 _ _ (het e hes)
        have en1 : (endsOf es t).1 = e.2.2.1 := by rw [hee]
        have en2 : (endsOf es t).2 = e.2.2.2 := by rw [hee]
        rw [en1] at hp1
        rw [en2] at hp2
        have g1 := DGet.k (k := .inr t) (s3 _ _ hd)
        rw [hval] at g1
        have g2 := DGet.k (k := .inr e.2.2.1) h3
        rw [dictF_val hp1] at g2
        have g3 := DGet.k (k := .inr e.2.2.2) h3
        rw [dictF_val hp2] at g3
        refine ⟨_, rfl, _, rfl, _, rfl, d, _, rfl, g1, e.2.1, _, 0, _, rfl, rfl, SqT.of htup3, atI_nat (j := 0) rfl, D, _, rfl, g2,
          _, rfl, _, rfl, _, rfl, d, _, rfl, g1, e.2.1, _, 1, _, rfl, rfl, SqT.of htup3, atI_nat (j := 1) rfl, D, _, rfl, g3, _, _, rfl, ?_⟩
        refine ⟨_, rfl, _, rfl, rfl, _, rfl, ?_⟩
        have hv : (V.str (f e.2.2.1) = V.str (f e.2.2.2)) ↔ f e.2.2.1 = f e.2.2.2 := ⟨fun q => by injection q, fun q => by rw [q]⟩
        have rv1 : (xs.take (i + 1)).reverse = t :: (xs.take i).reverse := by rw [take_snoc ht, List.reverse_append]; rfl
        rw [drop_at ht] at ii
        by_cases q : f e.2.2.1 = f e.2.2.2
        · rw [decide_eq_true (hv.mpr q)]
          refine ifT rfl (k H3 true s3 ⟨fun z => (by cases z), fun z => ?_⟩)
          refine absurd ?_ (ii.mp z).1
          show Conn (endsOf es) _ (endsOf es t).1 (endsOf es t).2
          rw [en1, en2]
          exact (M.cg _ hp1 _ hp2).mp q
        · rw [decide_eq_false (fun z => q (hv.mp z))]
          refine ifF rfl ?_
          have hne : f e.2.2.2 ≠ f e.2.2.1 := fun z => q z.symm
          refine ⟨_, rfl, D, _, rfl, h3, fun L hL => ⟨L, rfl, ⟨_, SqL.of upd_same⟩, ?_⟩⟩
          have ek : (dictF ps fun q => V.str (f q)).map (fun kv => kV kv.1) = txs ps := by rw [List.map_map]; rfl
          rw [ek]
          have s4 : Same H3 (upd H3 L (.lst (txs ps))) := same_new hL
          have hL4 : upd H3 L (.lst (txs ps)) L = some (.lst (txs ps)) := upd_same
          have h4 := s4 _ _ h3
          have LD : L ≠ D := fun z => by rw [z, h3] at hL; cases hL
          generalize upd H3 L (.lst (txs ps)) = H4 at *
          refine forL (xs := txs ps) (fun j σ H5 => (∃ o4, σ = [some (.ref d), some (.ref l), some (.ref D), some (.str t), o4, some (.str (f e.2.2.1)), some (.str (f e.2.2.2))]) ∧ Same H H5 ∧ H5 L = some (.lst (txs ps)) ∧
            H5 D = some (.dK (dictF ps fun q => .str (if mem (ps.take j) q = true then BF.merge f (f e.2.2.2) (f e.2.2.1) q else f q)))) (fun i σ H1 p => SqL.of p.2.2.1) ?_ ?_ ?_
          · refine ⟨⟨_, rfl⟩, s3.trans s4, hL4, ?_⟩
            rw [h4]
            exact congrArg (fun z => some (HO.dK z)) (dictF_congr fun p _ => rfl)
          · rintro σ5 H5 ⟨⟨p4, rfl⟩, s5, _, h5⟩
            refine hN _ _ ⟨⟨_, _, _, _, rfl⟩, s5, BF.merge f (f e.2.2.2) (f e.2.2.1), ?_, ?_, ?_⟩
            · rw [h5]
              refine congrArg (fun z => some (HO.dK z)) (dictF_congr fun p hp => ?_)
              rw [List.length_map, List.take_length, if_pos (mem_t.mpr hp)]
            · rw [rv1]
              exact M.merge (by rw [en1]; exact hp1) (by rw [en2]; exact hp2) hne (by rw [en1, en2]; exact .inr ⟨rfl, rfl⟩)
            · rw [rv1]
              refine ii.trans ⟨fun z => z.2, fun z => ⟨fun c => q ?_, z⟩⟩
              have c : Conn (endsOf es) _ (endsOf es t).1 (endsOf es t).2 := c
              rw [en1, en2] at c
              exact (M.cg _ hp1 _ hp2).mpr c
          · rintro j x σ5 H5 hj ⟨⟨p4, rfl⟩, s5, hL5, h5⟩ N' hN'
            obtain ⟨y, hy, rfl⟩ := txs_at hj
            have hyp : y ∈ ps := List.mem_of_getElem? hy
            have ny := not_in_take ndp hy
            have g4 := DGet.k (k := .inr y) h5
            rw [dictF_val hyp, if_neg (fun z => ny (mem_t.mp z))] at g4
            refine ⟨_, rfl, _, rfl, D, _, rfl, g4, _, rfl, rfl, _, rfl, ?_⟩
            have hv2 : (V.str (f y) = V.str (f e.2.2.1)) ↔ f y = f e.2.2.1 := ⟨fun q => by injection q, fun q => by rw [q]⟩
            have grow : ∀ p ∈ ps, p ≠ y → mem (ps.take (j + 1)) p = mem (ps.take j) p := fun p _ np => by
              rw [take_snoc hy]
              cases e1 : mem (ps.take j) p with
              | true => exact mem_t.mpr (List.mem_append_left _ (mem_t.mp e1))
              | false =>
                cases e2 : mem (ps.take j ++ [y]) p with
                | false => rfl
                | true =>
                  rcases List.mem_append.mp (mem_t.mp e2) with z | z
                  · rw [mem_t.mpr z] at e1; cases e1
                  · exact absurd (List.mem_singleton.mp z) np
            have at_y : mem (ps.take (j + 1)) y = true := mem_t.mpr (by rw [take_snoc hy]; exact List.mem_append_right _ List.mem_cons_self)
            by_cases z : f y = f e.2.2.1
            · rw [decide_eq_true (hv2.mpr z)]
              refine ifT rfl ⟨_, rfl, _, rfl, _, rfl, D, _, rfl, DPut.k (k := .inr y) h5 (by rw [List.length_map, sizeLine_eq]; omega), ?_⟩
              refine hN' _ _ ⟨⟨_, rfl⟩, same_put s5 hD, by rw [upd_ne LD]; exact hL5, ?_⟩
              rw [upd_same, dictF_put hyp]
              refine congrArg (fun z => some (HO.dK z)) (dictF_congr fun p hp => ?_)
              by_cases ep : p = y
              · subst ep
                rw [if_pos rfl, if_pos at_y]
                unfold BF.merge
                rw [if_pos z]
              · rw [if_neg ep, grow p hp ep]
            · rw [decide_eq_false (fun q => z (hv2.mp q))]
              refine ifF rfl (hN' _ _ ⟨⟨_, rfl⟩, s5, hL5, ?_⟩)
              rw [h5]
              refine congrArg (fun z => some (HO.dK z)) (dictF_congr fun p hp => ?_)
              by_cases ep : p = y
              · subst ep
                rw [if_neg (fun z => ny (mem_t.mp z)), if_pos at_y]
                unfold BF.merge
                rw [if_neg z]
              · rw [grow p hp ep]
    · rintro i x σ H2 hi ⟨⟨o3, o4, rfl⟩, s2, qs, h2, ndq, lqs, hqs⟩ N hN
      obtain ⟨t, ht, rfl⟩ := txs_at hi
      have htx := List.mem_of_getElem? ht
      have i7 : i < xs.length := by
        have := (List.getElem?_eq_some_iff.mp ht).1; exact this
      obtain ⟨e, hes, _, hee, hval⟩ := ends_at (hin t htx)
      have htup2 := s2 _ _ (het e hes)
      have g1 := DGet.k (k := .inr t) (s2 _ _ hd)
      rw [hval] at g1
      refine ⟨_, rfl, _, rfl, d, _, rfl, g1, e.2.1, rfl, ⟨_, SqT.of htup2⟩, ?_⟩
      refine forJ (R := Same) (H0 := H) (xs := [V.str e.2.2.1, V.str e.2.2.2]) (src_tup fun H' r => SqT.of (r _ _ (het e hes))) (fun j σ H3 => (∃ o4, σ = [some (.ref d), some (.ref l), some (.ref D), some (.str t), o4, none, none]) ∧ Same H H3 ∧
        ∃ qs' : List Str, H3 D = some (.dK (dictF qs' fun q => .str (id q))) ∧ qs'.Nodup ∧ qs'.length ≤ qs.length + j ∧ (∀ q ∈ qs, q ∈ qs') ∧ ∀ q ∈ [e.2.2.1, e.2.2.2].take j, q ∈ qs') (fun i σ H1 p => p.2.1) ⟨⟨_, rfl⟩, s2, qs, h2, ndq, by omega, fun q h => h, fun q h => (by cases h)⟩ ?_ ?_
      · rintro σ H3 ⟨⟨o4, rfl⟩, s3, qs', h3, nd3, l3, in3, new3⟩
        refine hN _ _ ⟨⟨_, _, rfl⟩, s3, qs', h3, nd3, ?_, fun u hu => ?_⟩
        · simp only [List.length_cons, List.length_nil] at l3; omega
        · rw [take_snoc ht] at hu
          rcases List.mem_append.mp hu with hu | hu
          · exact ⟨in3 _ (hqs u hu).1, in3 _ (hqs u hu).2⟩
          · rw [List.mem_singleton.mp hu, hee]
            exact ⟨new3 _ (by simp), new3 _ (by simp)⟩
      · rintro j x σ H3 hj ⟨⟨o4, rfl⟩, s3, qs', h3, nd3, l3, in3, new3⟩ N' hN'
        have j2 : j < 2 := (List.getElem?_eq_some_iff.mp hj).1
        obtain ⟨y, hy, rfl⟩ : ∃ y, [e.2.2.1, e.2.2.2][j]? = some y ∧ x = .str y := by
          have : ([e.2.2.1, e.2.2.2].map V.str)[j]? = some x := hj
          rw [List.getElem?_map] at this
          obtain ⟨y, hy, rfl⟩ := Option.map_eq_some_iff.mp this
          exact ⟨y, hy, rfl⟩
        obtain ⟨qs2, e2, nd2, in2, sub2, l2⟩ := own_put qs' nd3 y
        refine ⟨_, rfl, _, rfl, _, rfl, D, _, rfl, DPut.k (k := .inr y) h3 (by rw [List.length_map, sizeLine_eq]; omega), ?_⟩
        rw [e2]
        refine hN' _ _ ⟨⟨_, rfl⟩, same_put s3 hD, qs2, upd_same, nd2, by omega, fun q h => sub2 q (in3 q h), fun q h => ?_⟩
        rw [take_snoc hy] at h
        rcases List.mem_append.mp h with h | h
        · exact sub2 q (new3 q h)
        · rw [List.mem_singleton.mp h]; exact in2
end
end BF
set_option Elab.async false
set_option linter.all false
set_option maxRecDepth 100000
set_option maxHeartbeats 4000000
/-! Plain facts for the law's worlds: bases by free lots, ends swapped, a draw leaves the families. -/
namespace BF
open PySem PySem.Spec PyProof.Rows L2
def insS (x : Str) : List Str → List Str
  | [] => [x]
  | y :: l => if x.cps.toList < y.cps.toList then x :: y :: l else y :: insS x l
theorem insS_perm (x : Str) : ∀ l, (insS x l).Perm (x :: l)
  | [] => .refl _
  | y :: l => by
    unfold insS
    split
    · exact .refl _
    · exact ((insS_perm x l).cons y).trans (.swap x y l)
theorem insS_pw (x : Str) : ∀ l : List Str, l.Pairwise Le → (insS x l).Pairwise Le
  | [], _ => List.pairwise_singleton ..
  | y :: l, h => by
    obtain ⟨h1, h2⟩ := List.pairwise_cons.mp h
    unfold insS
    split
    · rename_i c
      have c1 : Le x y := List.lt_asymm c
      refine List.pairwise_cons.mpr ⟨fun z hz => ?_, h⟩
      rcases List.mem_cons.mp hz with rfl | hz
      · exact c1
      · exact le_tr c1 (h1 z hz)
    · rename_i c
      refine List.pairwise_cons.mpr ⟨fun z hz => ?_, insS_pw x l h2⟩
      rcases List.mem_cons.mp ((insS_perm x l).mem_iff.mp hz) with rfl | hz
      · exact c
      · exact h1 z hz
theorem sort_ex : ∀ l : List Str, ∃ m : List Str, m.Perm l ∧ sortedS m = true := by
  have go : ∀ l : List Str, ∃ m : List Str, m.Perm l ∧ m.Pairwise Le := fun l => by
    induction l with
    | nil => exact ⟨[], .refl _, .nil⟩
    | cons x l ih =>
      obtain ⟨m, h1, h2⟩ := ih
      exact ⟨insS x m, (insS_perm x m).trans (h1.cons x), insS_pw x m h2⟩
  intro l
  obtain ⟨m, h1, h2⟩ := go l
  exact ⟨m, h1, pw_sorted h2⟩
theorem mergeK_new : ∀ (more kvs : List (Key × V)), ((kvs ++ more).map (·.1)).Nodup → mergeK kvs more = kvs ++ more
  | [], kvs, _ => (List.append_nil kvs).symm
  | p :: r, kvs, h => by
    have e : kvs ++ p :: r = (kvs ++ [p]) ++ r := by simp
    have n : p.1 ∉ kvs.map (·.1) := fun q => by
      rw [List.map_append, List.nodup_append] at h
      exact h.2.2 p.1 q p.1 (by simp) rfl
    show mergeK (putK kvs p.1 p.2) r = _
    rw [putK_new _ (valV_keys n), e, mergeK_new r (kvs ++ [p]) (by rw [← e]; exact h)]
/-! ### bases by free lots -/
section
variable {E : List Str} {r : List Str → Nat}
theorem bases_of {Fs : List (List Str)} {M : Nat} (m : Mat E r) (sE : sortedS E = true) (hF : ∀ l : List Str, l ∈ Fs ↔ l.Sublist E ∧ r l = l.length) (ne : ((combos E M).filter fun l => decide (l ∈ Fs)) ≠ []) (top : ∀ l ∈ Fs, l.length ≤ M) : Bases E r ((combos E M).filter fun l => decide (l ∈ Fs)) := by
  have nd := m.nd
  have mi : ∀ B, B ∈ ((combos E M).filter fun l => decide (l ∈ Fs)) ↔ B.Sublist E ∧ B.length = M ∧ r B = B.length := fun B => by
    rw [List.mem_filter, combos_sub sE nd, decide_eq_true_eq, hF]
    exact ⟨fun h => ⟨h.1.1, h.1.2, h.2.2⟩, fun h => ⟨⟨h.1, h.2.1⟩, h.1, h.2.2⟩⟩
  have frl : ∀ {B : List Str}, B.Sublist E → r B = B.length → Fr E r (mem B) := fun {B} h e => by
    unfold Fr
    rw [crd_sub nd h, filter_sub nd h]; exact e
  have fM : rho E r full = M := by
    refine Nat.le_antisymm ?_ ?_
    · obtain ⟨q, _, q2, q3⟩ := m.base full
      rw [← q3]
      exact top _ ((hF _).mpr ⟨List.filter_sublist, q2⟩)
    · obtain ⟨B, l, e⟩ := List.exists_cons_of_ne_nil ne
      obtain ⟨h1, h2, h3⟩ := (mi B).mp (by rw [e]; exact List.mem_cons_self)
      have := m.top full (mem B) (fun _ _ _ => rfl) (frl h1 h3)
      rw [crd_sub nd h1, h2] at this
      exact this
  refine ⟨fun B h => ((mi B).mp h).1, fun B h => ((mi B).mp h).2.2, fun B h => ((mi B).mp h).2.1.trans fM.symm, fun p h1 h2 => (mi _).mpr ⟨List.filter_sublist, h2.trans fM, h1⟩⟩
theorem bases_cut {k : Nat} (m : Mat E (rCut k List.length)) (sE : sortedS E = true) : Bases E (rCut k List.length) (combos E (min k E.length)) := by
  have nd := m.nd
  have fM : rho E (rCut k List.length) full = min k E.length := rho_full
  refine ⟨fun B h => ((combos_sub sE nd).mp h).1, fun B h => ?_, fun B h => ((combos_sub sE nd).mp h).2.trans fM.symm, fun p h1 h2 => (combos_sub sE nd).mpr ⟨List.filter_sublist, h2.trans fM⟩⟩
  have := ((combos_sub sE nd).mp h).2
  show min k B.length = B.length
  omega
theorem Bases.perm {Bs Cs : List (List Str)} (b : Bases E r Bs) (p : Cs.Perm Bs) : Bases E r Cs := ⟨fun B h => b.sub B (p.mem_iff.mp h), fun B h => b.free B (p.mem_iff.mp h), fun B h => b.top B (p.mem_iff.mp h), fun q h1 h2 => p.mem_iff.mpr (b.all q h1 h2)⟩
theorem Bases.ne (m : Mat E r) {Bs : List (List Str)} (b : Bases E r Bs) : Bs ≠ [] := fun e => by
  obtain ⟨B, h, _⟩ := b.some m (List.nil_sublist E)
  rw [e] at h; cases h
end
/-! ### ends swapped -/
section
variable {e e' : Str → Str × Str} {ts : List Str}
theorem swp_conn (s : Swp e e' ts) {l : List Str} {a b : Str} (h : ∀ t ∈ l, t ∈ ts) : Conn e' l a b ↔ Conn e l a b := by
  constructor
  · refine Conn.least (R := Conn e l) (Conn.refl _) Conn.symm Conn.trans fun t ht => ?_
    rcases s t (h t ht) with q | q
    · rw [q]; exact Conn.tie ht
    · rw [q]; exact (Conn.tie ht).symm
  · refine Conn.least (R := Conn e' l) (Conn.refl _) Conn.symm Conn.trans fun t ht => ?_
    have c := Conn.tie (e := e') ht
    rcases s t (h t ht) with q | q
    · rw [q] at c; exact c
    · rw [q] at c; exact c.symm
theorem swp_cl (s : Swp e e' ts) {l : List Str} {t : Str} (h : ∀ t ∈ l, t ∈ ts) (ht : t ∈ ts) : clW e' l t = clW e l t := by
  apply propext
  show Conn e' l (e' t).1 (e' t).2 ↔ Conn e l (e t).1 (e t).2
  rw [swp_conn s h]
  rcases s t ht with q | q
  · rw [q]
  · rw [q]; exact ⟨Conn.symm, Conn.symm⟩
theorem swp_rk (s : Swp e e' ts) : ∀ (l pre : List Str), (∀ t ∈ pre, t ∈ ts) → (∀ t ∈ l, t ∈ ts) → rkA (clW e') pre l = rkA (clW e) pre l
  | [], _, _, _ => rfl
  | x :: l, pre, h1, h2 => by
    have hx := h2 x List.mem_cons_self
    have ih := swp_rk s l (x :: pre) (fun t ht => by
      rcases List.mem_cons.mp ht with rfl | ht
      · exact hx
      · exact h1 t ht) fun t ht => h2 t (List.mem_cons_of_mem _ ht)
    unfold rkA
    rw [ih]
    congr 1
    by_cases c : clW e pre x
    · rw [if_pos c, if_pos (by rw [swp_cl s h1 hx]; exact c)]
    · rw [if_neg c, if_neg (by rw [swp_cl s h1 hx]; exact c)]
end
/-! ### a draw leaves the families -/
section
variable {K : PySem.W.Frag} {Γ : Gh} {H H' : Hp} {W : Addr}
theorem WellAt.keep (w : WellAt H W) (e : Exc W H H') {b : Addr} {o : HO} (h : H b = some o) (n : ∀ a b c : Int, o ≠ .lst [.int a, .int b, .int c]) : H' b = some o := e _ _ (w.ne h n) h
theorem SrcOk.dr {i : FInfo} (w : WellAt H W) (e : Exc W H H') (h : SrcOk K Γ H i) : SrcOk K Γ H' i := by
  have ki : ∀ {b C dx fs}, H b = some (.ins C dx fs) → H' b = some (.ins C dx fs) := fun h => w.keep e h fun _ _ _ q => nomatch q
  have kt : ∀ {b} {xs : List Str}, H b = some (.tup (txs xs)) → H' b = some (.tup (txs xs)) := fun h => w.keep e h fun _ _ _ q => nomatch q
  have kd : ∀ {b} {kvs : List (Key × V)}, H b = some (.dK kvs) → H' b = some (.dK kvs) := fun h => w.keep e h fun _ _ _ q => nomatch q
  cases h with
  | web ps es v hE hr =>
    obtain ⟨⟨dx, kt', ed, h1, h2, h3⟩, h4, h5, h6, h7⟩ := v
    exact .web ps es ⟨⟨dx, kt', ed, ki h1, kt h2, kd h3⟩, fun e he => ⟨kt (xs := [_, _]) (h4 e he).1, (h4 e he).2⟩, h5, h6, h7⟩ hE hr
  | listed Bs v hr =>
    obtain ⟨⟨dx, l, vs, h1, h2, h3⟩, h4, h5⟩ := v
    refine .listed Bs ⟨⟨dx, l, vs, ki h1, w.keep e h2 fun a b c q => ?_, Paired.imp (fun v l ⟨a, q, h⟩ => ⟨a, q, kt h⟩) h3⟩, h4, h5⟩ hr
    injection q with q
    subst q
    cases h3 with
    | cons x _ =>
      obtain ⟨_, x, _⟩ := x
      cases x
  | free dx v hr => exact .free dx (ki v) hr
  | short dx a c j v g hd hE hr => exact .short dx a c j (ki v) g hd hE hr
  | joined dx a b j k v g g' hd hd' hs hr => exact .joined dx a b j k (ki v) g g' hd hd' hs hr
  | renamed dx a o j f v g hd ho hE inj hr => exact .renamed dx a o j f (ki v) g hd (kd ho) hE inj hr
theorem Good.dr (G : Good K Γ H) (w : WellAt H W) (e : Exc W H H') : Good K Γ H' :=
  ⟨fun a i g => by
    obtain ⟨⟨dx, h1⟩, h2, ⟨kvs, h3, h3'⟩, h4, h5, h6, h7, h8⟩ := G.fam a i g
    exact ⟨⟨dx, w.keep e h1 (fun _ _ _ q => nomatch q)⟩, w.keep e h2 (fun _ _ _ q => nomatch q), ⟨kvs, w.keep e h3 (fun _ _ _ q => nomatch q), h3'⟩, h4.dr w e, h5, h6, h7, h8⟩, G.inj⟩
theorem Good.same (G : Good K Γ H) (s : Same H H') : Good K Γ H' := G.step (.of_same G.caches s)
end
theorem paired_mapL {α β γ : Type} {F : β → γ → Prop} (g : α → β) : ∀ {is : List α} {us : List γ}, Paired (fun i v => F (g i) v) is us → Paired F (is.map g) us
  | _, _, .nil => .nil
  | _, _, .cons a t => .cons a (paired_mapL g t)
/-- the masks drawn, told as a function -/
theorem masks_of {H : Hp} : ∀ {E : List Str} {us : List V}, E.Nodup → Paired (fun x v => ∃ (a : Addr) (n : Nat), v = V.ref a ∧ n < 16 ∧ H a = some (.tup [.str x, .int (n : Int)])) E us →
    ∃ (ps : List Addr) (w : Str → Nat), us = ps.map V.ref ∧ Paired (fun p (kv : Key × V) => H p = some (.tup [kV kv.1, kv.2])) ps (masksK E w) ∧ ∀ x ∈ E, w x < 16
  | _, _, _, .nil => ⟨[], fun _ => 0, rfl, .nil, fun x h => by cases h⟩
  | x :: E, v :: us, nd, .cons q t => by
    obtain ⟨ps, w, h1, h2, h3⟩ := masks_of (List.nodup_cons.mp nd).2 t
    obtain ⟨a, n, rfl, hn, ha⟩ := q
    have nx := (List.nodup_cons.mp nd).1
    have ew : masksK E (fun y => if y = x then n else w y) = masksK E w := List.map_congr_left fun y hy => by
      show ((Sum.inr y : Key), V.int (((if y = x then n else w y : Nat)) : Int)) = _
      rw [if_neg (fun e => nx (by rw [← e]; exact hy))]
    refine ⟨a :: ps, fun y => if y = x then n else w y, by rw [h1]; rfl, ?_, fun y hy => ?_⟩
    · show Paired _ (a :: ps) (((Sum.inr x : Key), V.int (((if x = x then n else w x : Nat) : Nat) : Int)) :: masksK E fun y => if y = x then n else w y)
      rw [ew, if_pos rfl]
      exact .cons ha h2
    · show (if y = x then n else w y) < 16
      by_cases e : y = x
      · rw [if_pos e]; exact hn
      · rw [if_neg e]
        rcases List.mem_cons.mp hy with rfl | hy
        · exact absurd rfl e
        · exact h3 y hy
theorem masksK_nd {E : List Str} {w : Str → Nat} (nd : E.Nodup) : ((masksK E w).map (·.1)).Nodup := by
  rw [List.map_map]
  exact nd_map _ _ nd fun a _ b _ e => by
    have e : (Sum.inr a : Key) = Sum.inr b := e
    exact Sum.inr.inj e
end BF
set_option Elab.async false
set_option linter.all false
set_option maxRecDepth 100000
set_option maxHeartbeats 4000000
/-! The law's worlds. -/
namespace BF
open PySem PySem.Spec PyProof.Rows L2
def spWorld (K : PySem.W.Frag) : Sp := fun vs H Q _ => ∃ (W : Addr) (Γ : Gh), vs = [.ref W, .int 7] ∧ WellAt H W ∧ Good K Γ H ∧
  ∀ H' p fa th bl us (i : FInfo) Bs (Γ' : Gh), Dr W H H' → H th = none → Good K Γ' H' → (∀ a j, Γ a = some j → Γ' a = some j) → Γ' fa = some i → i.dep ≤ 1 → H' p = some (.tup [.ref fa, .ref th, .ref bl]) → H' th = some (.lst (txs i.E)) → H' bl = some (.lst us) → Paired (LotAt H') us Bs → Bases i.E i.r Bs → Bs.length ≤ 1000 → i.E.length ≤ 7 → Q (.ref p) H'
abbrev wN : List Str := ["_law_well", "_law_top", "_law_kind", "_law_places", "_law_ties", "_law_free", "_law_lot", "_law_things", "_law_k", "_law_masks", "_law_thing", "_law_bases_here"]
theorem sc_law_world : FnScope wN ["_law_well", "_law_top"] (defScope s_law_world) := ⟨rfl, rfl, rfl, by decide +kernel, rfl, by decide +kernel, by decide +kernel⟩
theorem keys_of {E : List Str} {g : Str → V} : ((dictF E g).map (·.1)) = E.map Sum.inr := by rw [List.map_map]; rfl
/-- the free lots that a comprehension keeps -/
theorem free_lots {E : List Str} {r : List Str → Nat} (sE : sortedS E = true) (nd : E.Nodup) (f : List Str → Bool) (hf : ∀ l : List Str, l.Sublist E → (f l = true ↔ r l = l.length)) (l : List Str) : l ∈ (allLots E).filter f ↔ l.Sublist E ∧ r l = l.length := by
  rw [List.mem_filter, all_mem sE nd]
  exact ⟨fun h => ⟨h.1, (hf l h.1).mp h.2⟩, fun h => ⟨h.1, (hf l h.1).mpr h.2⟩⟩
theorem kept_lots {H : Hp} {us : List V} {Ls : List (List Str)} (pu : Paired (LotAt H) us Ls) (f : List Str → Bool) : Paired (LotAt H) ((picks us.length fun i => f (Ls.getD i [])).map fun i => us.getD i .non) (Ls.filter f) := by
  have lw : us.length = Ls.length := Paired.length pu
  have e : (Ls.filter f) = (picks us.length fun i => f (Ls.getD i [])).map fun i => Ls.getD i [] := by
    rw [lw, picks_filter (fun l : List Str => l) [] f Ls, List.map_id']
  rw [e]
  refine paired_maps _ _ _ fun i hi => ?_
  have hi' := (picks_lt hi).1
  obtain ⟨l, hl, hL⟩ := paired_at pu (List.getElem?_eq_getElem hi')
  rw [getD_at (List.getElem?_eq_getElem hi'), getD_at hl]
  exact hL
theorem perm_txs {ys : List V} {E : List Str} (p : ys.Perm (txs E)) : ∃ xs : List Str, ys = txs xs ∧ xs.Perm E := by
  let bk : V → Str := fun v => match v with
    | .str z => z
    | _ => e0
  have e1 : (ys.map bk).Perm E := by
    have := p.map bk
    rw [List.map_map] at this
    have e : (txs E).map bk = E := by
      rw [List.map_map]
      exact (List.map_congr_left fun x _ => rfl).trans (List.map_id' E)
    rw [List.map_map] at e
    rw [e] at this
    exact this
  refine ⟨ys.map bk, ?_, e1⟩
  show ys = (ys.map bk).map V.str
  rw [List.map_map]
  conv => lhs; rw [← List.map_id' ys]
  refine List.map_congr_left fun v hv => ?_
  obtain ⟨x, _, rfl⟩ := List.mem_map.mp (p.mem_iff.mp hv)
  rfl
theorem lots_dr {H H' : Hp} {W : Addr} (w : WellAt H W) (e : Exc W H H') {us : List V} {Ls : List (List Str)} (h : Paired (LotAt H) us Ls) : Paired (LotAt H') us Ls :=
  Paired.imp (fun v l ⟨a, q, h⟩ => ⟨a, q, w.keep e h fun _ _ _ q => nomatch q⟩) h
theorem pick3 {n : Nat} (h : (n : Int) < 3) : ∃ m : Nat, [V.int 4, V.int 8, V.int 16][n]? = some (.int (m : Int)) ∧ 0 < m ∧ m ≤ 16 := by
  rcases (by omega : n = 0 ∨ n = 1 ∨ n = 2) with rfl | rfl | rfl
  · exact ⟨4, rfl, by omega, by omega⟩
  · exact ⟨8, rfl, by omega, by omega⟩
  · exact ⟨16, rfl, by omega, by omega⟩
section
variable {P : Program} {w : World} {K : PySem.W.Frag} {mg : Str → Option Value} {base : Heap}
theorem ok_law_world (T : TX K mg) : FOk P w K mg base 5 ("_law_world", none) ["_law_well", "_law_top"] (spWorld K) := by
  refine T.fn 59 (d := d_law_world) rfl rfl rfl sc_law_world (fun vs H Q E h => ?_) (fun _ _ _ _ _ _ us hl => match us, hl with | [_, _], _ => rfl) (fun cdv A outer s H vs Q E hr h => ?_)
  · obtain ⟨W, Γ, rfl, _⟩ := h; rfl
  · obtain ⟨W, Γ, rfl, hW, G, kk⟩ := h
    have nd := sc_law_world.nd
    have hu := hu_of hr
    refine ⟨_, pss_cons (ps_set (i := 2) nd rfl (Or.inl rfl) (pe_cl (ok_law_draw T) (hr.mono (by omega)) T.g_law_draw (pa_cons (pv 0) (pa_cons pe_int pa_nil)))) <|
      pss_cons (ps_if (pt_cmp (pc_lt (pv 2) pe_int))
        (pss_cons (ps_asg (pe_cl (ok_law_web_drawn T) hr T.g_law_web_drawn (pa_cons (pv 0) (pa_cons (pv 1) pa_nil))) (pg_tup (by rfl) (pgs_cons (pg_name (i := 3) nd rfl (Or.inl rfl)) (pgs_cons (pg_name (i := 4) nd rfl (Or.inr rfl)) pgs_nil)))) <|
         pss_cons (ps_setLc (i := 5) (own := [("_law_lot", 6)]) (g := gName 6) rfl nd rfl rfl (sw_true rfl rfl rfl rfl) (pi_list (pe_cl (ok_law_all_lots T) (hr.mono (by omega)) T.g_law_all_lots (pa_cons (pv 4) pa_nil))) (blkOk_by (N := wN) (sc := defScope s_law_world) (by decide +kernel)) (fun _ _ _ _ _ => pg_name (i := 6) nd rfl (Or.inl rfl))
           (fun _ _ _ _ _ => pts_one (pt_not (pt_val (pe_cl (ok_law_rings_round T) (hr.mono (by omega)) T.g_law_rings_round (pa_cons (pv 4) (pa_cons (pv 6) pa_nil)))))) (fun _ _ _ _ _ => pv 6)) <|
         pss_one (ps_ret (pe_tup (pa_cons (pe_cl (ok_ties_family T) (hr.mono (by omega)) T.g_ties_family (pa_cons (pe_mk T.mk_Web (ok_Web_init T) hr T.g_Web (pa_cons (pv 3) (pa_cons (pv 4) pa_nil))) pa_nil)) (pa_cons (pe_callB (cr_sortedAny rfl) (by rfl) T.f_sorted (by decide +kernel) (pa_cons (pv 4) pa_nil)) (pa_cons (pe_cl (ok_law_bases T) (hr.mono (by omega)) T.g_law_bases (pa_cons (pv 4) (pa_cons (pv 5) pa_nil))) pa_nil)))))) pss_nil) <|
      pss_cons (ps_set (i := 7) nd rfl (Or.inl rfl) (pe_callB (cr_sortedAny rfl) (by rfl) T.f_sorted (by decide +kernel) (pa_cons (pe_cl (ok_law_names T) (hr.mono (by omega)) T.g_law_names (pa_cons (pv 0) (pa_cons (pe_cl (ok_law_draw T) (hr.mono (by omega)) T.g_law_draw (pa_cons (pv 0) (pa_cons (pe_add (pv 1) pe_int) pa_nil))) pa_nil))) pa_nil))) <|
      pss_cons (ps_if (pt_cmp (pc_eqI (pv 2) pe_int))
        (pss_cons (ps_set (i := 8) nd rfl (Or.inl rfl) (pe_cl (ok_law_draw T) (hr.mono (by omega)) T.g_law_draw (pa_cons (pv 0) (pa_cons (pe_add (pe_callB call_len_seq (by rfl) T.f_len (by decide +kernel) (pa_cons (pv 7) pa_nil)) pe_int) pa_nil)))) <|
         pss_one (ps_ret (pe_tup (pa_cons (pe_cl (ok_cut_short T) (hr.mono (by omega)) T.g_cut_short (pa_cons (pe_cl (ok_free_on T) (hr.mono (by omega)) T.g_free_on (pa_cons (pe_cl (ok_law_shuffled T) (hr.mono (by omega)) T.g_law_shuffled (pa_cons (pv 0) (pa_cons (pv 7) pa_nil))) pa_nil)) (pa_cons (pv 8) pa_nil))) (pa_cons (pv 7) (pa_cons (pe_cl (ok_law_lots T) (hr.mono (by omega)) T.g_law_lots (pa_cons (pv 7) (pa_cons (pe_callB (call_min2 rfl) (by rfl) T.f_min (by decide +kernel) (pa_cons (pv 8) (pa_cons (pe_callB call_len_seq (by rfl) T.f_len (by decide +kernel) (pa_cons (pv 7) pa_nil)) pa_nil))) pa_nil))) pa_nil)))))) pss_nil) <|
      pss_cons (ps_set (i := 9) nd rfl (Or.inr rfl) (pe_callTy (call_dictP rfl) (by rfl) T.f_dict (by decide +kernel) (pa_cons
        (pe_lc (own := [("_law_thing", 10)]) (g := gName 10) rfl nd (pi_list (pv 7)) (blkOk_by (N := wN) (sc := defScope s_law_world) (by decide +kernel)) (fun _ _ _ _ _ => pg_name (i := 10) nd rfl (Or.inl rfl)) (fun _ _ _ _ _ => pts_nil)
          (fun _ _ _ _ _ => pe_tup (pa_cons (pv 10) (pa_cons (pe_cl (ok_law_draw T) (hr.mono (by omega)) T.g_law_draw (pa_cons (pv 0) (pa_cons (pe_ix (ixList K) (pe_lst (pa_cons pe_int (pa_cons pe_int (pa_cons pe_int pa_nil)))) (pe_cl (ok_law_draw T) (hr.mono (by omega)) T.g_law_draw (pa_cons (pv 0) (pa_cons pe_int pa_nil))) (fun _ _ => rfl)) pa_nil))) pa_nil)))) pa_nil))) <|
      pss_cons (ps_setLc (i := 5) (own := [("_law_lot", 6)]) (g := gName 6) rfl nd rfl rfl (sw_true rfl rfl rfl rfl) (pi_list (pe_cl (ok_law_all_lots T) (hr.mono (by omega)) T.g_law_all_lots (pa_cons (pv 7) pa_nil))) (blkOk_by (N := wN) (sc := defScope s_law_world) (by decide +kernel)) (fun _ _ _ _ _ => pg_name (i := 6) nd rfl (Or.inl rfl))
           (fun _ _ _ _ _ => pts_one (pt_val (pe_cl (ok_law_apart T) (hr.mono (by omega)) T.g_law_apart (pa_cons (pv 9) (pa_cons (pv 6) pa_nil))))) (fun _ _ _ _ _ => pv 6)) <|
      pss_cons (ps_set (i := 11) nd rfl (Or.inl rfl) (pe_cl (ok_law_bases T) (hr.mono (by omega)) T.g_law_bases (pa_cons (pv 7) (pa_cons (pv 5) pa_nil)))) <|
      pss_one (ps_ret (pe_tup (pa_cons (pe_cl (ok_listed T) (hr.mono (by omega)) T.g_listed (pa_cons (pv 7) (pa_cons
        (pe_lc (own := [("_law_lot", 6)]) (g := gName 6) rfl nd (pi_list (pe_cl (ok_law_shuffled T) (hr.mono (by omega)) T.g_law_shuffled (pa_cons (pv 0) (pa_cons (pv 11) pa_nil)))) (blkOk_by (N := wN) (sc := defScope s_law_world) (by decide +kernel)) (fun _ _ _ _ _ => pg_name (i := 6) nd rfl (Or.inl rfl)) (fun _ _ _ _ _ => pts_nil)
          (fun _ _ _ _ _ => pe_cl (ok_law_shuffled T) (hr.mono (by omega)) T.g_law_shuffled (pa_cons (pv 0) (pa_cons (pv 6) pa_nil)))) pa_nil))) (pa_cons (pv 7) (pa_cons (pv 11) pa_nil))))), ?_⟩
    refine ⟨_, rfl, W, 5, rfl, by omega, by omega, hW, fun H1 kd ex1 w1 hkd => ⟨_, rfl, _, _, rfl, rfl, _, rfl, ?_⟩⟩
    have d1 : Dr W H H1 := ⟨ex1, w1⟩
    have G1 := G.dr hW ex1
    by_cases c2 : kd < 2
    · -- webs
      refine ifT (decide_eq_true (by omega)) ?_
      refine ⟨_, rfl, _, rfl, W, rfl, w1, fun H2 p2 pl td ps es d2 hp2 htup hpl l1 l5 ndp gp htd nde l7 ge htie => ?_⟩
      have d02 := d1.trans d2
      have G2 := G1.dr w1 d2.ex
      refine ⟨_, _, rfl, SqT.of htup, rfl, _, _, rfl, _, _, rfl, rfl, ?_⟩
      obtain ⟨E, pmE, sE⟩ := sort_ex (es.map (·.1))
      have ndE : E.Nodup := pmE.nodup_iff.mpr nde
      have lE : E.length ≤ 7 := by rw [pmE.length_eq, List.length_map]; exact l7
      have gE : ∀ x ∈ E, good x = true := fun x hx => ge x (pmE.mem_iff.mp hx)
      have okE : ∀ x ∈ E, PyData.strOk x = true := fun x hx => good_ok (gE x hx)
      have kT : ∀ H', Same H2 H' → ThingsAt K H' td (es.map (·.1)) := fun H' s => .inr ⟨tiesK es, s _ _ htd, by rw [List.map_map, List.map_map]; rfl⟩
      refine ⟨_, rfl, td, _, E, rfl, kT H2 (Same.refl _), pmE.symm, sE, ndE, lE, okE, fun H3 al us s3 hal hal3 pu => ⟨al, rfl, ⟨_, SqL.of hal3⟩, fun D hD => ?_⟩⟩
      have lw : us.length = (allLots E).length := Paired.length pu
      have l128 := all_len sE ndE lE
      let f : List Str → Bool := fun l => decide (rk (clW (endsOf es)) l = l.length)
      refine lcV (H0 := H3) (same_frm H3) (src_list fun H' r => SqL.of (r _ _ hal3)) (fun i => f ((allLots E).getD i [])) (fun i => us.getD i .non) (by omega) (fun x => rfl) hD (same_new hD) ?_ ?_ ?_
      · intro i v H4 Qb hi r qq
        obtain ⟨l, hl, b, rfl, hb⟩ := paired_at pu hi
        have lsub := (all_mem sE ndE).mp (List.mem_of_getElem? hl)
        have s24 := s3.trans r
        refine ⟨_, rfl, _, rfl, td, b, es, l, rfl, s24 _ _ htd, fun e he => s24 _ _ (htie e he).1, SqT.of (r _ _ hb), Nat.le_trans lsub.length_le lE, fun x hx => pmE.mem_iff.mp (lsub.subset hx), fun H5 b2 s5 hb2 => ⟨b2, rfl, ?_⟩⟩
        have := qq H5 s5
        rw [getD_at (d := []) hl] at this
        have eb : f l = !b2 := by
          cases b2 with
          | false => exact decide_eq_true ((rkA_full l []).mpr (hb2.mp rfl))
          | true => exact decide_eq_false fun q => Bool.noConfusion (hb2.mpr ((rkA_full l []).mp q))
        rw [eb] at this
        exact this
      · intro i v H4 Qv hi _ r qq
        refine ⟨_, rfl, ?_⟩
        rw [← getD_at (d := V.non) hi]
        exact qq H4 (Same.refl _)
      · intro H4 s4 hD4
        have s24 := s3.trans s4
        have pF := kept_lots (Paired.imp (fun v l q => q.same s4) pu) f
        have G4 := G2.same s24
        -- the web, the family
        refine ⟨_, rfl, _, rfl, fun x dx hx hdx hne => ?_⟩
        have hpl4 := s24 _ _ hpl
        have htd4 := s24 _ _ htd
        have nw : ∀ {b o}, H4 b = some o → upd (upd H4 dx (.own x)) x (.ins (He.ga K "Web") dx []) b = some o := fun h => by
          rw [upd_ne (ne_of_none h hx), upd_ne (ne_of_none h hdx)]; exact h
        refine ⟨x, dx, pl, td, ps, es, rfl, upd_same, SqL.of (nw hpl4), l1, by omega, ndp, gp, nw htd4, nde, l7, ge, fun e he => ⟨nw (s24 _ _ (htie e he).1), (htie e he).2⟩, fun H5 qs es' ex5 wat pmes ses swp => ⟨rfl, ?_⟩⟩
        have s5 : Same H4 H5 := ex5.made hx hdx
        have G5 := G4.same s5
        have eE : es'.map (·.1) = E := sorted_eq (pmes.trans pmE.symm) ses sE
        refine ⟨Γ, x, qs, es', rfl, wat, ses, by have := congrArg List.length eE; rw [List.length_map] at this; omega, fun y hy => gE y (by rw [← eE]; exact hy), fun H6 fa i nf eiE eir eid => ?_⟩
        have s26 : Same H2 H6 := s24.trans (s5.trans nf.st)
        have G6 := G5.more nf
        refine ⟨_, rfl, td, _, rfl, kT H6 s26, by rw [List.length_map]; omega, fun ys th pmy srt hth => ?_⟩
        have ey : ys = E := sorted_eq (pmy.trans pmE.symm) srt sE
        subst ey
        have s7 : Same H6 (upd H6 th (.lst (txs ys))) := same_new hth
        have hth7 : upd H6 th (.lst (txs ys)) th = some (.lst (txs ys)) := upd_same
        generalize upd H6 th (.lst (txs ys)) = H7 at *
        have s47 : Same H4 H7 := s5.trans (nf.st.trans s7)
        have hf : ∀ l : List Str, l.Sublist ys → (f l = true ↔ i.r l = l.length) := fun l sl => by
          rw [eir]
          have : rk (clW (endsOf es')) l = rk (clW (endsOf es)) l := swp_rk swp l [] (fun t ht => by cases ht) fun t ht => pmE.mem_iff.mp (sl.subset ht)
          rw [this]
          exact decide_eq_true_iff
        have FI := (G6.fam fa i (by unfold BF.more; rw [if_pos rfl]))
        have eiE' : i.E = ys := eiE.trans eE
        have mi : Mat ys i.r := by rw [← eiE']; exact FI.mat
        have fl := free_lots (r := i.r) sE ndE f hf
        refine ⟨_, rfl, _, rfl, td, D, _, ys, _, (allLots ys).filter f, rfl, kT H7 (s26.trans s7), pmE.symm, sE, ndE, lE, okE, s47 _ _ hD4, Paired.imp (fun v l q => q.same s47) pF, fun l hl => ((fl l).mp hl).1, (fl []).mpr ⟨List.nil_sublist _, ?_⟩, ?_, fun H8 bl ws M s8 hbl hbl8 pws nee top => ⟨len3, fun p hp => ?_⟩⟩
        · have := mi.rk_le (List.nil_sublist ys)
          simpa using this
        · exact Nat.le_trans (List.length_filter_le _ _) (by omega)
        · have s9 : Same H8 (upd H8 p (.tup [.ref fa, .ref th, .ref bl])) := same_new hp
          have s69 := s7.trans (s8.trans s9)
          refine kk _ p fa th bl ws i _ (BF.more Γ fa i) (d02.trans (.of_same d02.at_ (s26.trans s69))) (d02.free hW (s26.free hth)) (G6.same s69) (more_le (G5.none_of nf.np)) (by unfold BF.more; rw [if_pos rfl]) (by omega) upd_same ?_ (s9 _ _ hbl8) (Paired.imp (fun v l q => q.same s9) pws) ?_ ?_ (by rw [eiE']; exact lE)
          · rw [eiE']; exact s9 _ _ (s8 _ _ hth7)
          · rw [eiE']; exact bases_of mi sE fl nee top
          · have h1 := combos_len sE ndE lE M
            exact Nat.le_trans (List.length_filter_le _ _) (by omega)
    · refine ifF (decide_eq_false (by omega)) ?_
      refine ⟨_, rfl, _, rfl, _, rfl, 7, 1, rfl, rfl, W, 8, rfl, by omega, by omega, w1, fun H2 n2 ex2 w2 hn2 => ?_⟩
      refine ⟨W, n2, rfl, w2, by omega, fun H3 nl ns d3 hnl hnl3 lns ndn gn => ⟨nl, ns, rfl, .inl (SqL.of hnl3), by omega, fun E th pmE sE hth => ?_⟩⟩
      have d03 : Dr W H H3 := d1.trans ((Dr.mk ex2 w2).trans d3)
      have s4 : Same H3 (upd H3 th (.lst (txs E))) := same_new hth
      have hth4 : upd H3 th (.lst (txs E)) th = some (.lst (txs E)) := upd_same
      have d04 : Dr W H (upd H3 th (.lst (txs E))) := d03.trans (.of_same d03.at_ s4)
      have thW : th ≠ W := d03.at_.ne0 hth
      generalize upd H3 th (.lst (txs E)) = H4 at *
      have G4 := G.dr hW d04.ex
      have ndE : E.Nodup := pmE.nodup_iff.mpr ndn
      have lE : E.length ≤ 7 := by rw [pmE.length_eq]; omega
      have gE : ∀ x ∈ E, good x = true := fun x hx => gn x (pmE.mem_iff.mp hx)
      have okE : ∀ x ∈ E, PyData.strOk x = true := fun x hx => good_ok (gE x hx)
      refine ⟨_, rfl, _, _, rfl, rfl, _, rfl, ?_⟩
      by_cases c3 : kd = 2
      · -- lots of at most k things
        refine ifT (decide_eq_true (by omega)) ?_
        refine ⟨_, rfl, _, rfl, th, txs E, rfl, .inl (SqL.of hth4), _, _, rfl, rfl, W, _, rfl, by rw [List.length_map]; omega, by rw [List.length_map]; omega, d04.at_, fun H5 k ex5 w5 hk => ?_⟩
        have hth5 := ex5 _ _ thW hth4
        have G5 := G4.dr d04.at_ ex5
        have d05 : Dr W H H5 := d04.trans ⟨ex5, w5⟩
        refine ⟨_, rfl, _, rfl, W, th, txs E, rfl, w5, .inl (SqL.of hth5), by rw [List.length_map]; omega, fun H6 sl ys d6 hsl hsl6 pmy => ?_⟩
        obtain ⟨xs, rfl, pmx⟩ := perm_txs pmy
        have G6 := G5.dr w5 d6.ex
        have d06 := d05.trans d6
        have hth6 := d6.ex _ _ thW hth5
        refine ⟨Γ, sl, xs, rfl, SqL.of hsl6, by rw [pmx.length_eq]; exact lE, pmx.nodup_iff.mpr ndE, fun x hx => gE x (pmx.mem_iff.mp hx), fun H7 fa i nf pmi eir eid => ?_⟩
        have G7 := G6.more nf
        have np7 := G6.none_of nf.np
        refine ⟨_, rfl, BF.more Γ fa i, fa, i, k, rfl, G7, by unfold BF.more; rw [if_pos rfl], fun H8 fb j nf2 ejE ejr ejd => ?_⟩
        have G8 := G7.more nf2
        have np8 := G7.none_of nf2.np
        have F8 := G8.fam fb j (by unfold BF.more; rw [if_pos rfl])
        have eE : j.E = E := by
          rw [ejE]
          exact sorted_eq (pmi.trans pmx) (by rw [← ejE]; exact F8.srt) sE
        have s68 : Same H6 H8 := nf.st.trans nf2.st
        have hth8 := s68 _ _ hth6
        refine ⟨_, rfl, _, rfl, _, rfl, _, rfl, th, txs E, rfl, .inl (SqL.of hth8), _, _, rfl, ?_⟩
        have em : (if (((txs E).length : Nat) : Int) < (k : Int) then (((txs E).length : Nat) : Int) else (k : Int)) = ((min k E.length : Nat) : Int) := by
          rw [List.length_map]
          by_cases h : E.length < k
          · rw [if_pos (by omega)]; omega
          · rw [if_neg (by omega)]; omega
        rw [em]
        refine ⟨th, min k E.length, E, E, rfl, .inl (SqL.of hth8), .refl _, sE, ndE, lE, okE, by omega, fun H9 bl us s9 hbl hbl9 pu => ⟨len3, fun p hp => ?_⟩⟩
        have s10 : Same H9 (upd H9 p (.tup [.ref fb, .ref th, .ref bl])) := same_new hp
        have s6p := s68.trans (s9.trans s10)
        have m8 := F8.mat
        rw [eE, ejr, eir] at m8
        refine kk _ p fb th bl us j _ _ (d06.trans (.of_same d06.at_ s6p)) (d03.free hW hth) (G8.same (s9.trans s10)) (fun a z h => more_le np8 _ _ (more_le np7 _ _ h)) (by unfold BF.more; rw [if_pos rfl]) (by omega) upd_same ?_ (s10 _ _ hbl9) (Paired.imp (fun v l q => q.same s10) pu) ?_ ?_ (by rw [eE]; exact lE)
        · rw [eE]; exact (s9.trans s10) _ _ hth8
        · rw [eE, ejr, eir]; exact bases_cut m8 sE
        · have := combos_len sE ndE lE (min k E.length)
          omega
      · -- rows
        refine ifF (decide_eq_false (by omega)) ?_
        refine ⟨_, rfl, th, rfl, ⟨_, SqL.of hth4⟩, fun D hD => ?_⟩
        have w4 := d04.at_
        refine lcJ (H0 := H4) (dr_frm w4) (src_list fun H' r => SqL.of (r.ex _ _ thW hth4)) (fun _ => true) (fun D i v H5 => ∃ (a : Addr) (n : Nat), v = V.ref a ∧ n < 16 ∧ H5 a = some (.tup [.str (E.getD i e0), .int (n : Int)])) (by simp; omega)
          (fun i v H5 H6 r ⟨a, n, e, hn, h⟩ r2 => ⟨a, n, e, hn, r.at_.keep r2.ex h fun _ _ _ q => nomatch q⟩)
          (fun i v H5 l l' ⟨a, n, e, hn, h⟩ hl => ⟨a, n, e, hn, by rw [upd_ne (fun z => by rw [z, hl] at h; cases h)]; exact h⟩) (fun x => rfl) hD (Dr.put w4 (.refl w4) hD) ?_ ?_ ?_
        · intro i x H5 Qb hi r q
          exact q H5 (.refl r.at_)
        · intro i x H5 Qv hi _ r q
          obtain ⟨y, hy, rfl⟩ := txs_at hi
          refine ⟨_, rfl, _, rfl, by rw [sizeLine_eq]; simp, fun tl htl => ?_⟩
          have s6 : Same H5 (upd H5 tl (.lst [.int 4, .int 8, .int 16])) := same_new htl
          have htl6 : upd H5 tl (.lst [.int 4, .int 8, .int 16]) tl = some (.lst [.int 4, .int 8, .int 16]) := upd_same
          have d6 := Dr.of_same r.at_ s6
          have tlW : tl ≠ W := r.at_.ne0 htl
          generalize upd H5 tl (.lst [.int 4, .int 8, .int 16]) = H6 at *
          refine ⟨_, rfl, W, 3, rfl, by omega, by omega, d6.at_, fun H7 n ex7 w7 hn => ?_⟩
          obtain ⟨m, hm, m0, m16⟩ := pick3 hn
          refine ⟨tl, _, (n : Int), _, rfl, rfl, SqL.of (ex7 _ _ tlW htl6), atI_nat hm, W, (m : Int), rfl, by omega, by omega, w7, fun H8 n2 ex8 w8 hn2 => ⟨len2, fun a ha => ?_⟩⟩
          have d8 : Dr W H5 H8 := d6.trans ((Dr.mk ex7 w7).trans ⟨ex8, w8⟩)
          refine q (.ref a) _ (d8.put r.at_ (d8.free r.at_ ha)) ⟨a, n2, rfl, by omega, ?_⟩
          rw [upd_same, getD_at (d := e0) hy]
        · intro H5 us d5 hD5 pus
          rw [picks_all, List.length_map] at pus
          have pus2 := paired_mapL (F := fun (x : Str) (v : V) => ∃ (a : Addr) (n : Nat), v = V.ref a ∧ n < 16 ∧ H5 a = some (.tup [.str x, .int (n : Int)])) (fun i => E.getD i e0) pus
          rw [map_range' (fun x : Str => x) e0 E, List.map_id'] at pus2
          obtain ⟨ps, ww, rfl, pps, h16⟩ := masks_of ndE pus2
          refine ⟨D, ps, masksK E ww, rfl, SqL.of hD5, Paired.imp (fun p kv q => SqT.of q) pps, fun md hmd => ?_⟩
          rw [mergeK_new _ [] (by rw [List.nil_append]; exact masksK_nd ndE), List.nil_append]
          have s6 : Same H5 (upd H5 md (.dK (masksK E ww))) := same_new hmd
          have hmd6 : upd H5 md (.dK (masksK E ww)) md = some (.dK (masksK E ww)) := upd_same
          have d46 := d5.trans (.of_same d5.at_ s6)
          generalize upd H5 md (.dK (masksK E ww)) = H6 at *
          have hth6 := d46.ex _ _ thW hth4
          have d06 := d04.trans d46
          have G6 := G4.dr w4 d46.ex
          refine ⟨_, rfl, th, E, E, rfl, .inl (SqL.of hth6), .refl _, sE, ndE, lE, okE, fun H7 al us7 s7 hal hal7 pu => ⟨al, rfl, ⟨_, SqL.of hal7⟩, fun D2 hD2 => ?_⟩⟩
          have lw : us7.length = (allLots E).length := Paired.length pu
          have l128 := all_len sE ndE lE
          let f : List Str → Bool := fun l => decide (rk (clR ww) l = l.length)
          refine lcV (H0 := H7) (same_frm H7) (src_list fun H' r => SqL.of (r _ _ hal7)) (fun i => f ((allLots E).getD i [])) (fun i => us7.getD i .non) (by omega) (fun x => rfl) hD2 (same_new hD2) ?_ ?_ ?_
          · intro i v H8 Qb hi r qq
            obtain ⟨l, hl, b, rfl, hb⟩ := paired_at pu hi
            have lsub := (all_mem sE ndE).mp (List.mem_of_getElem? hl)
            refine ⟨_, rfl, _, rfl, md, b, E, l, ww, rfl, (s7.trans r) _ _ hmd6, SqT.of (r _ _ hb), Nat.le_trans lsub.length_le lE, fun x hx => lsub.subset hx, h16, fun H9 b2 s9 hb2 => ⟨b2, rfl, ?_⟩⟩
            have := qq H9 s9
            rw [getD_at (d := []) hl] at this
            have eb : f l = b2 := by
              cases b2 with
              | true => exact decide_eq_true ((rkA_full l []).mpr (hb2.mp rfl))
              | false => exact decide_eq_false fun q => Bool.noConfusion (hb2.mpr ((rkA_full l []).mp q))
            rw [eb] at this
            exact this
          · intro i v H8 Qv hi _ r qq
            refine ⟨_, rfl, ?_⟩
            rw [← getD_at (d := V.non) hi]
            exact qq H8 (Same.refl _)
          · intro H8 s8 hD8
            have s68 := s7.trans s8
            have pF := kept_lots (Paired.imp (fun v l q => q.same s8) pu) f
            have m : Mat E (rk (clR ww)) := (clo_rows ww).mat ndE
            have fl := free_lots (r := rk (clR ww)) sE ndE f fun l _ => decide_eq_true_iff
            refine ⟨_, rfl, _, rfl, th, D2, E, E, _, (allLots E).filter f, rfl, .inl (SqL.of (s68 _ _ hth6)), .refl _, sE, ndE, lE, okE, hD8, pF, fun l hl => ((fl l).mp hl).1, (fl []).mpr ⟨List.nil_sublist _, rfl⟩, Nat.le_trans (List.length_filter_le _ _) (by omega), fun H9 bl ws M s9 hbl hbl9 pws nee top => ?_⟩
            have bs := bases_of m sE fl nee top
            have lB : ((combos E M).filter fun l => decide (l ∈ (allLots E).filter f)).length ≤ 128 := Nat.le_trans (List.length_filter_le _ _) (combos_len sE ndE lE M)
            have ndB : ((combos E M).filter fun l => decide (l ∈ (allLots E).filter f)).Nodup := (combos_nd ndE M).filter _
            generalize ((combos E M).filter fun l => decide (l ∈ (allLots E).filter f)) = Bs at *
            have s69 := s68.trans s9
            have d09 := d06.trans (.of_same d06.at_ s69)
            have w9 := d09.at_
            have G9 := G6.same s69
            have hth9 := s69 _ _ hth6
            have blW : bl ≠ W := (d06.trans (.of_same d06.at_ s68)).at_.ne0 hbl
            have lws : ws.length = Bs.length := Paired.length pws
            refine ⟨_, rfl, _, rfl, _, rfl, W, bl, ws, rfl, w9, .inl (SqL.of hbl9), by omega, fun H10 sl ys d10 hsl hsl10 pmy => ⟨sl, rfl, ⟨_, SqL.of hsl10⟩, fun L hL => ?_⟩⟩
            obtain ⟨Cs, pmC, pC⟩ := paired_perm pws pmy
            have pC10 := lots_dr w9 d10.ex pC
            have slW : sl ≠ W := w9.ne0 hsl
            have w10 := d10.at_
            refine lc_list (xs := ys) (fun j H11 => Dr W H10 H11 ∧ ∃ (vs : List V) (Ls : List (List Str)), H11 L = some (.lst vs) ∧ Paired (fun v l => ∃ a, v = V.ref a ∧ H11 a = some (.lst (txs l)) ∧ a ≠ L ∧ a ≠ W) vs Ls ∧ Paired (fun L B => L.Perm B) Ls (Cs.take j)) ⟨Dr.put w10 (.refl w10) hL, [], [], upd_same, .nil, .nil⟩ (fun i H11 _ p => SqL.of (p.1.ex _ _ slW hsl10)) ?_ ?_
            · rintro j v H11 hj ⟨d11, vs, Ls, hL11, pvs, pLs⟩
              obtain ⟨C, hC, b, rfl, hb⟩ := paired_at pC10 hj
              have hb11 := w10.keep d11.ex hb fun _ _ _ q => nomatch q
              have jl : j < Cs.length := (List.getElem?_eq_some_iff.mp hC).1
              have Cl : C.length ≤ 7 := by
                have := (bs.sub C (pmC.mem_iff.mp (List.mem_of_getElem? hC))).length_le
                omega
              refine ⟨rfl, yesI ⟨_, rfl, _, rfl, W, b, txs C, rfl, d11.at_, .inr (SqT.of hb11), by rw [List.length_map]; omega, fun H12 q zs d12 hq hq12 pmz => ?_⟩⟩
              obtain ⟨xs, rfl, pmx⟩ := perm_txs pmz
              have LW : L ≠ W := w10.ne0 hL
              have qL : q ≠ L := fun z => by rw [z, hL11] at hq; cases hq
              have qW : q ≠ W := d11.at_.ne0 hq
              have lvs : vs.length = Ls.length := Paired.length pvs
              have lLs : Ls.length = j := by
                have := Paired.length pLs
                rw [List.length_take] at this
                omega
              have pml := pmC.length_eq
              refine ⟨vs, d12.ex _ _ LW hL11, by rw [sizeLine_eq]; omega, Dr.put w10 (d11.trans d12) hL, vs ++ [.ref q], Ls ++ [xs], upd_same, ?_, ?_⟩
              · refine Paired.snoc (Paired.imp (fun v l ⟨a, e, h, h1, h2⟩ => ⟨a, e, by rw [upd_ne h1]; exact d12.ex _ _ h2 h, h1, h2⟩) pvs) ⟨q, rfl, by rw [upd_ne qL]; exact hq12, qL, qW⟩
              · rw [take_snoc hC]; exact Paired.snoc pLs pmx
            · rintro H11 ⟨d11, vs, Ls, hL11, pvs, pLs⟩
              have ly : ys.length = Cs.length := Paired.length pC
              rw [ly, List.take_length] at pLs
              have d011 := (d09.trans d10).trans d11
              have G11 := (G9.dr w9 d10.ex).dr w10 d11.ex
              have hth11 := d11.ex _ _ thW (d10.ex _ _ thW hth9)
              have neC : Cs ≠ [] := (bs.perm pmC).ne m
              have lC : Cs.length ≤ 1000 := by rw [pmC.length_eq]; omega
              refine ⟨Γ, th, L, E, rk (clR ww), vs, Ls, Cs, rfl, SqL.of hth11, SqL.of hL11, Paired.imp (fun v l ⟨a, e, h, _⟩ => ⟨a, e, h⟩) pvs, pLs, pmC.nodup_iff.mpr ndB, neC, lC, m, bs.perm pmC, sE, lE, gE, fun H12 fa i nf eiE eir eid => ⟨_, rfl, _, rfl, len3, fun p hp => ?_⟩⟩
              have G12 := G11.more nf
              have s13 : Same H12 (upd H12 p (.tup [.ref fa, .ref th, .ref bl])) := same_new hp
              have s1p := nf.st.trans s13
              have hbl11 := d11.ex _ _ blW (d10.ex _ _ blW hbl9)
              refine kk _ p fa th bl ws i Bs _ (d011.trans (.of_same d011.at_ s1p)) (d03.free hW hth) (G12.same s13) (more_le (G11.none_of nf.np)) (by unfold BF.more; rw [if_pos rfl]) (by omega) upd_same ?_ (s1p _ _ hbl11) (Paired.imp (fun v l q => q.same s1p) (lots_dr w10 d11.ex (lots_dr w9 d10.ex pws))) ?_ (by omega) (by rw [eiE]; exact lE)
              · rw [eiE]; exact s1p _ _ hth11
              · rw [eiE, eir]; exact bs
end
end BF
set_option Elab.async false
set_option linter.all false
set_option maxRecDepth 100000
set_option maxHeartbeats 4000000
/-! The law's reckoning of two families side by side. -/
namespace BF
open PySem PySem.Spec PyProof.Rows L2
theorem pe_imp {X : Cx} {e : Expr} {t t' : TE} (h : PE X e t) (m : ∀ σ H Q, t' σ H Q → t σ H Q) : PE X e t' := ⟨fun pins s σ H Q I q => h.run pins s σ H Q I (m _ _ _ q)⟩
/-- the numbers among two that may be None -/
def somes : Option Nat → Option Nat → List Int
  | some a, some b => [(a : Int), (b : Int)]
  | some a, none => [(a : Int)]
  | none, some b => [(b : Int)]
  | none, none => []
def tFewer : TE := fun σ H Q => ∃ (mL : Addr) (o1 o2 : Option Nat), σ[2]? = some (some (.ref mL)) ∧ H mL = some (.lst [optV o1, optV o2]) ∧ Q (optV (sideFew o1 o2)) H
def tMoster : TE := fun σ H Q => ∃ (fL : Addr) (p1 p2 : Option Nat), σ[3]? = some (some (.ref fL)) ∧ H fL = some (.lst ((somes p1 p2).map V.int)) ∧ ∀ H', Same H H' → Q (optV (sideMost p1 p2)) H'
def spSided (K : PySem.W.Frag) : Sp := fun vs H Q _ => ∃ (Γ : Gh) (a b : Addr) (i j : FInfo), vs = [.ref a, .ref b] ∧ Good K Γ H ∧ Γ a = some i ∧ Γ b = some j ∧ i.dep < 4 ∧ j.dep < 4 ∧
  ∀ H' p o1 o2 p1 p2, Rg Γ H H' → FewIs i.E i.r o1 → FewIs j.E j.r o2 → MostIs i.E i.r p1 → MostIs j.E j.r p2 → H' p = some (.tup [optV (sideFew o1 o2), optV (sideMost p1 p2)]) → Q (.ref p) H'
abbrev sN : List Str := ["_law_one", "_law_other", "_law_many", "_law_few", "_law_number"]
theorem sc_law_sided : FnScope sN ["_law_one", "_law_other"] (defScope s_law_sided) := ⟨rfl, rfl, rfl, by decide +kernel, rfl, by decide +kernel, by decide +kernel⟩
section
variable {P : Program} {w : World} {K : PySem.W.Frag} {mg : Str → Option Value} {base : Heap}
theorem ok_law_sided (T : TX K mg) : FOk P w K mg base 16 ("_law_sided", none) ["_law_one", "_law_other"] (spSided K) := by
  refine T.fn 65 (d := d_law_sided) rfl rfl rfl sc_law_sided (fun vs H Q E h => ?_) (fun _ _ _ _ _ _ us hl => match us, hl with | [_, _], _ => rfl) (fun cdv A outer s H vs Q E hr h => ?_)
  · obtain ⟨Γ, a, b, i, j, rfl, _⟩ := h; rfl
  · obtain ⟨Γ, a, b, i, j, rfl, G, ga, gb, hi, hj, kk⟩ := h
    have nd := sc_law_sided.nd
    refine ⟨_, pss_cons (ps_set (i := 2) nd rfl (Or.inl rfl) (pe_lst (pa_cons (pe_cl (ok_fewest T 4) hr T.g_fewest (pa_cons (pv 0) pa_nil)) (pa_cons (pe_cl (ok_fewest T 4) hr T.g_fewest (pa_cons (pv 1) pa_nil)) pa_nil)))) <|
      pss_cons (ps_setLc (i := 3) (own := [("_law_number", 4)]) (g := gName 4) rfl nd rfl rfl (sw_true rfl rfl rfl rfl) (pi_list (pe_lst (pa_cons (pe_cl (ok_most T 4) hr T.g_most (pa_cons (pv 0) pa_nil)) (pa_cons (pe_cl (ok_most T 4) hr T.g_most (pa_cons (pv 1) pa_nil)) pa_nil)))) (blkOk_by (N := sN) (sc := defScope s_law_sided) (by decide +kernel)) (fun _ _ _ _ _ => pg_name (i := 4) nd rfl (Or.inl rfl))
        (fun _ _ _ _ _ => pts_one (pt_cmp (pc_notN (pv 4)))) (fun _ _ _ _ _ => pv 4)) <|
      pss_one (ps_ret (pe_tup (pa_cons (pe_imp (t' := tFewer) (pe_ifExp (pt_cmpR op_in_seq pe_non (pv 2) (by rfl)) pe_non (pe_callB (cr_max rfl) (by rfl) T.f_max (by decide +kernel) (pa_cons (pv 2) pa_nil))) ?first)
        (pa_cons (pe_imp (t' := tMoster) (pe_ifExp (pt_cmpR (op_neD hr.units) (pv 3) (pe_lst pa_nil) (by rfl)) (pe_callB (cr_min rfl) (by rfl) T.f_min (by decide +kernel) (pa_cons (pv 3) pa_nil)) pe_non) ?second) pa_nil)))), ?_⟩
    case first =>
      rintro σ H Q ⟨mL, o1, o2, hσ, hm, q⟩
      refine ⟨_, hσ, mL, _, rfl, .inl (SqL.of hm), rfl, by cases o1 <;> cases o2 <;> rfl, _, rfl, ?_⟩
      cases o1 with
      | none => exact ifT rfl q
      | some x =>
        cases o2 with
        | none => exact ifT rfl q
        | some y =>
          refine ifF rfl ⟨_, hσ, mL, [(x : Int), (y : Int)], rfl, SqL.of hm, by simp, fun m h1 h2 => ?_⟩
          have h3 := h2 (x : Int) (by simp)
          have h4 := h2 (y : Int) (by simp)
          have e : m = ((max x y : Nat) : Int) := by
            simp only [List.mem_cons, List.not_mem_nil, or_false] at h1
            omega
          rw [e]
          exact q
    case second =>
      rintro σ H Q ⟨fL, p1, p2, hσ, hm, q⟩
      refine ⟨_, hσ, by rw [sizeLine_eq]; simp, fun e he => ?_⟩
      have s1 : Same H (upd H e (.lst [])) := same_new he
      refine ⟨.list ((somes p1 p2).map PyData.int), .list [], .lst (SqL.of (s1 _ _ hm)) (ints_dp _), .lst (SqL.of upd_same) .nil, ints_shaped _, ints_shaped [], _, rfl, ?_⟩
      have one : ∀ z : Nat, somes p1 p2 = [(z : Int)] → sideMost p1 p2 = some z → (∃ v, σ[3]? = some (some v) ∧ ∃ (a : Addr) (ns : List Int), [v] = [V.ref a] ∧ SqL K (upd H e (.lst [])) a (ns.map V.int) ∧ 0 < ns.length ∧ ∀ m, m ∈ ns → (∀ y, y ∈ ns → m ≤ y) → Q (.int m) (upd H e (.lst []))) := fun z e1 e2 => by
        rw [e1] at hm
        refine ⟨_, hσ, fL, [(z : Int)], rfl, SqL.of (s1 _ _ hm), by simp, fun m h1 _ => ?_⟩
        rw [List.mem_singleton.mp h1]
        have := q _ s1
        rw [e2] at this
        exact this
      cases p1 with
      | none =>
        cases p2 with
        | none => exact ifF (by simp [somes, PyData.eqv, PyData.eqvAll]) (q _ s1)
        | some y => exact ifT (by simp [somes, PyData.eqv, PyData.eqvAll]) (one y rfl rfl)
      | some x =>
        cases p2 with
        | none => exact ifT (by simp [somes, PyData.eqv, PyData.eqvAll]) (one x rfl rfl)
        | some y =>
          refine ifT (by simp [somes, PyData.eqv, PyData.eqvAll]) ⟨_, hσ, fL, [(x : Int), (y : Int)], rfl, SqL.of (s1 _ _ hm), by simp, fun m h1 h2 => ?_⟩
          have h3 := h2 (x : Int) (by simp)
          have h4 := h2 (y : Int) (by simp)
          have e : m = ((min x y : Nat) : Int) := by
            simp only [List.mem_cons, List.not_mem_nil, or_false] at h1
            omega
          rw [e]
          exact q _ s1
    refine ⟨_, rfl, Γ, a, i, rfl, G, ga, hi, fun H1 o1 r1 f1 => ⟨_, rfl, Γ, b, j, rfl, G.step r1, gb, hj, fun H2 o2 r2 f2 => ⟨len2, fun mL hmL => ?_⟩⟩⟩
    have s3 : Same H2 (upd H2 mL (.lst [optV o1, optV o2])) := same_new hmL
    have hm3 : upd H2 mL (.lst [optV o1, optV o2]) mL = some (.lst [optV o1, optV o2]) := upd_same
    have r3 := (r1.trans r2).same s3
    generalize upd H2 mL (.lst [optV o1, optV o2]) = H3 at *
    refine ⟨_, rfl, Γ, a, i, rfl, G.step r3, ga, hi, fun H4 p1 r4 g1 => ⟨_, rfl, Γ, b, j, rfl, (G.step r3).step r4, gb, hj, fun H5 p2 r5 g2 => ⟨len2, fun nL hnL => ⟨nL, rfl, ⟨_, SqL.of upd_same⟩, fun D hD => ?_⟩⟩⟩⟩
    have s6 : Same H5 (upd H5 nL (.lst [optV p1, optV p2])) := same_new hnL
    have hn6 : upd H5 nL (.lst [optV p1, optV p2]) nL = some (.lst [optV p1, optV p2]) := upd_same
    have r36 := (r4.trans r5).same s6
    generalize upd H5 nL (.lst [optV p1, optV p2]) = H6 at *
    refine lcV (H0 := H6) (same_frm H6) (src_list fun H' r => SqL.of (r _ _ hn6)) (fun i => ([p1, p2].getD i none).isSome) (fun i => [optV p1, optV p2].getD i .non) (by simp) (fun x => rfl) hD (same_new hD) ?_ ?_ ?_
    · intro i x H7 Qb hi r q
      have hx : ([p1, p2].map optV)[i]? = some x := hi
      rw [List.getElem?_map] at hx
      obtain ⟨o, ho, rfl⟩ := Option.map_eq_some_iff.mp hx
      refine ⟨_, rfl, _, rfl, ?_⟩
      have := q H7 (Same.refl _)
      rw [getD_at (d := none) ho] at this
      cases o with
      | none =>
        rw [decide_eq_true (show optV none = V.non from rfl)]
        exact this
      | some z =>
        rw [decide_eq_false (fun e : optV (some z) = V.non => nomatch e)]
        exact this
    · intro i x H7 Qv hi _ r q
      refine ⟨_, rfl, ?_⟩
      rw [← getD_at (d := V.non) hi]
      exact q H7 (Same.refl _)
    · intro H7 s7 hD7
      have e7 : (picks [optV p1, optV p2].length fun i => ([p1, p2].getD i none).isSome).map (fun i => [optV p1, optV p2].getD i .non) = (somes p1 p2).map V.int := by
        cases p1 <;> cases p2 <;> rfl
      rw [e7] at hD7
      refine ⟨mL, o1, o2, rfl, s7 _ _ (r36.st.lst hm3), D, p1, p2, rfl, hD7, fun H8 s8 => ⟨len2, fun p hp => ?_⟩⟩
      exact kk _ p o1 o2 p1 p2 ((((r3.trans r36).same s7).same s8).same (same_new hp)) f1 f2 g1 g2 upd_same
end
end BF
set_option Elab.async false
set_option linter.all false
set_option maxRecDepth 100000
set_option maxHeartbeats 4000000
/-! The law's tests. -/
namespace BF
open PySem PySem.Spec PyProof.Rows L2
theorem pt_imp {X : Cx} {e : Expr} {t t' : TT} (h : PT X e t) (m : ∀ σ H Q, t' σ H Q → t σ H Q) : PT X e t' := ⟨fun pins s σ H Q I q => h.run pins s σ H Q I (m _ _ _ q)⟩
theorem few_bound {E : List Str} {r : List Str → Nat} (m : Mat E r) {k : Nat} (h : FewIs E r (some k)) : k ≤ E.length := by
  apply Classical.byContradiction
  intro n
  exact h.2.2 E.length (by omega) (cov_enough m h.1)
def tT1 (K : PySem.W.Frag) : TT := fun σ H Q => ∃ (rd th : Addr) (E : List Str) (r : List Str → Nat) (lo hi : Option Nat), σ[7]? = some (some (.ref rd)) ∧ σ[5]? = some (some (.ref th)) ∧ σ[8]? = some (some (.int ((r E : Nat) : Int))) ∧ σ[9]? = some (some (optV lo)) ∧ σ[10]? = some (some (optV hi)) ∧
  H rd = some (.dT (ranksK r (allLots E))) ∧ SqL K H th (txs E) ∧ Mat E r ∧ sortedS E = true ∧ E.length ≤ 7 ∧ (∀ x ∈ E, PyData.strOk x = true) ∧ FewIs E r lo ∧ MostIs E r hi ∧ ∀ H', Same H H' → Q false H'
def tT2 (K : PySem.W.Frag) : TT := fun σ H Q => ∃ (Γ : Gh) (fa : Addr) (i : FInfo) (lo : Option Nat), σ[4]? = some (some (.ref fa)) ∧ σ[9]? = some (some (optV lo)) ∧ Good K Γ H ∧ Γ fa = some i ∧ i.dep < 4 ∧ FewIs i.E i.r lo ∧ ∀ H', Rg Γ H H' → Q false H'
def tT3 (K : PySem.W.Frag) : TT := fun σ H Q => ∃ (Γ : Gh) (fa : Addr) (i : FInfo) (hi : Option Nat), σ[4]? = some (some (.ref fa)) ∧ σ[10]? = some (some (optV hi)) ∧ Good K Γ H ∧ Γ fa = some i ∧ i.dep < 4 ∧ MostIs i.E i.r hi ∧ ∀ H', Rg Γ H H' → Q false H'
def tT4 (K : PySem.W.Frag) : TT := fun σ H Q => ∃ (Γ : Gh) (fs : Addr) (j : FInfo) (c : Nat) (E : List Str) (r : List Str → Nat) (lo : Option Nat), σ[11]? = some (some (.ref fs)) ∧ σ[9]? = some (some (optV lo)) ∧ Good K Γ H ∧ Γ fs = some j ∧ j.dep < 4 ∧ j.E = E ∧ j.r = rCut c r ∧ Mat E r ∧ FewIs E r lo ∧ ∀ H', Rg Γ H H' → Q false H'
def tT5 (K : PySem.W.Frag) : TT := fun σ H Q => ∃ (Γ : Gh) (fs : Addr) (j : FInfo) (c : Nat) (E : List Str) (r : List Str → Nat) (hi : Option Nat), σ[11]? = some (some (.ref fs)) ∧ σ[10]? = some (some (optV hi)) ∧ Good K Γ H ∧ Γ fs = some j ∧ j.dep < 4 ∧ j.E = E ∧ j.r = rCut c r ∧ Mat E r ∧ MostIs E r hi ∧ ∀ H', Rg Γ H H' → Q false H'
section
variable {K : PySem.W.Frag} {σ : L2.St} {H : Hp} {Q : Bool → Hp → Prop}
/-- the readings of the calls that the tests hold -/
abbrev cLike (a b : TE) : TE := tCall spLike [] E0 (tCons a (tCons b tNil))
theorem t1_ok (h : tT1 K σ H Q) : tOr (tNot (tB (cLike (tVar 9) (tCall spFewL [] E0 (tCons (tVar 7) tNil))))) (tNot (tB (cLike (tVar 10) (tCall (spMostL K) [] E0 (tCons (tVar 7) (tCons (tVar 5) (tCons (tVar 8) tNil))))))) σ H Q := by
  obtain ⟨rd, th, E, r, lo, hi, h7, h5, h8, h9, h10, hd, ht, m, srt, l7, ok, flo, fhi, q⟩ := h
  refine ⟨_, h9, _, h7, rd, E, r, rfl, hd, m, srt, l7, ok, fun H1 o1 s1 f1 => ?_⟩
  obtain rfl := FewIs.one f1 flo
  refine ⟨o1, rfl, _, rfl, iteF ⟨_, h10, _, h7, _, h5, _, h8, rd, th, E, r, rfl, s1 _ _ hd, same_seqL s1 ht, m, srt, l7, ok, fun H2 o2 s2 f2 => ?_⟩⟩
  obtain rfl := MostIs.one f2 fhi
  exact ⟨o2, rfl, _, rfl, q H2 (s1.trans s2)⟩
theorem t2_ok (h : tT2 K σ H Q) : tAnd (tB (tNotN (tVar 9))) (tOr (tB (tIsN (tCall (spCov K 4) [] E0 (tCons (tVar 4) (tCons (tVar 9) tNil))))) (tAnd (tB (tGt (tVar 9) (tC (.int 0)))) (tB (tNotN (tCall (spCov K 4) [] E0 (tCons (tVar 4) (tCons (tOp (rI0 fun i j => .int (i - j)) (tVar 9) (tC (.int 1))) tNil))))))) σ H Q := by
  obtain ⟨Γ, fa, i, lo, h4, h9, G, ga, hd, fl, q⟩ := h
  have F := G.fam fa i ga
  cases lo with
  | none => exact ⟨_, h9, _, rfl, ifF (by rw [decide_eq_true (show optV none = V.non from rfl)]; rfl) (q H (Rg.refl G.caches))⟩
  | some k =>
    have kb := few_bound F.mat fl
    have k14 := F.few
    refine ⟨_, h9, _, rfl, ifT (by rw [decide_eq_false (fun e : optV (some k) = V.non => nomatch e)]; rfl) ⟨_, h4, _, h9, Γ, fa, i, k, rfl, G, ga, hd, by omega, fun c H1 p r1 => ⟨_, rfl, ifF (decide_eq_false (fun e => nomatch e)) ?_⟩, fun nc => absurd fl.2.1 nc⟩⟩
    refine ⟨_, h9, _, _, rfl, rfl, _, rfl, ?_⟩
    by_cases k0 : 0 < k
    · refine ifT (decide_eq_true (by omega)) ⟨_, h4, _, h9, _, _, rfl, rfl, Γ, fa, i, k - 1, ?_, G.step r1, ga, hd, by omega, fun c => absurd c (fl.2.2 (k - 1) (by omega)), fun nc H2 r2 => ⟨_, rfl, ?_⟩⟩
      · show [V.ref fa, V.int ((k : Int) - 1)] = _
        rw [show ((k : Nat) : Int) - 1 = ((k - 1 : Nat) : Int) by omega]
      · rw [decide_eq_true rfl]; exact q H2 (r1.trans r2)
    · exact ifF (decide_eq_false (by omega)) (q H1 r1)
theorem t3_ok (h : tT3 K σ H Q) : tAnd (tB (tNotN (tVar 10))) (tOr (tB (tIsN (tCall (spPack K 4) [] E0 (tCons (tVar 4) (tCons (tVar 10) tNil))))) (tB (tNotN (tCall (spPack K 4) [] E0 (tCons (tVar 4) (tCons (tOp (rI0 fun i j => .int (i + j)) (tVar 10) (tC (.int 1))) tNil)))))) σ H Q := by
  obtain ⟨Γ, fa, i, hi, h4, h10, G, ga, hd, fm, q⟩ := h
  have F := G.fam fa i ga
  cases hi with
  | none => exact ⟨_, h10, _, rfl, ifF (by rw [decide_eq_true (show optV none = V.non from rfl)]; rfl) (q H (Rg.refl G.caches))⟩
  | some k =>
    have kb := pack_bound F.mat fm.1 fm.2.1
    have k14 := F.few
    refine ⟨_, h10, _, rfl, ifT (by rw [decide_eq_false (fun e : optV (some k) = V.non => nomatch e)]; rfl) ⟨_, h4, _, h10, Γ, fa, i, k, rfl, G, ga, hd, by omega, fun c H1 p r1 => ⟨_, rfl, ifF (decide_eq_false (fun e => nomatch e)) ?_⟩, fun nc => absurd fm.2.1 nc⟩⟩
    refine ⟨_, h4, _, h10, _, _, rfl, rfl, Γ, fa, i, k + 1, rfl, G.step r1, ga, hd, by omega, fun c => absurd c fm.2.2, fun nc H2 r2 => ⟨_, rfl, ?_⟩⟩
    rw [decide_eq_true rfl]; exact q H2 (r1.trans r2)
theorem t4_ok (h : tT4 K σ H Q) : tAnd (tB (tNotN (tVar 9))) (tAnd (tB (tNotN (tCall (spFew K 4) [] E0 (tCons (tVar 11) tNil)))) (tB (tLt (tCall (spFew K 4) [] E0 (tCons (tVar 11) tNil)) (tVar 9)))) σ H Q := by
  obtain ⟨Γ, fs, j, c, E, r, lo, h11, h9, G, gs, hd, eE, er, m, fl, q⟩ := h
  cases lo with
  | none => exact ⟨_, h9, _, rfl, ifF (by rw [decide_eq_true (show optV none = V.non from rfl)]; rfl) (q H (Rg.refl G.caches))⟩
  | some k =>
    refine ⟨_, h9, _, rfl, ifT (by rw [decide_eq_false (fun e : optV (some k) = V.non => nomatch e)]; rfl) ⟨_, h11, Γ, fs, j, rfl, G, gs, hd, fun H1 o1 r1 f1 => ⟨_, rfl, ?_⟩⟩⟩
    cases o1 with
    | none => exact ifF (by rw [decide_eq_true (show optV none = V.non from rfl)]; rfl) (q H1 r1)
    | some a =>
      refine ifT (by rw [decide_eq_false (fun e : optV (some a) = V.non => nomatch e)]; rfl) ⟨_, h11, Γ, fs, j, rfl, G.step r1, gs, hd, fun H2 o2 r2 f2 => ?_⟩
      obtain rfl := FewIs.one f2 f1
      rw [eE, er] at f1
      have := few_cut m fl f1
      refine ⟨_, h9, (a : Int), (k : Int), rfl, rfl, _, rfl, ?_⟩
      show Q (decide ((a : Int) < (k : Int))) H2
      rw [decide_eq_false (by omega)]
      exact q H2 (r1.trans r2)
theorem t5_ok (h : tT5 K σ H Q) : tAnd (tB (tNotN (tVar 10))) (tAnd (tB (tNotN (tCall (spMost K 4) [] E0 (tCons (tVar 11) tNil)))) (tB (tLt (tCall (spMost K 4) [] E0 (tCons (tVar 11) tNil)) (tVar 10)))) σ H Q := by
  obtain ⟨Γ, fs, j, c, E, r, hi, h11, h10, G, gs, hd, eE, er, m, fm, q⟩ := h
  cases hi with
  | none => exact ⟨_, h10, _, rfl, ifF (by rw [decide_eq_true (show optV none = V.non from rfl)]; rfl) (q H (Rg.refl G.caches))⟩
  | some k =>
    refine ⟨_, h10, _, rfl, ifT (by rw [decide_eq_false (fun e : optV (some k) = V.non => nomatch e)]; rfl) ⟨_, h11, Γ, fs, j, rfl, G, gs, hd, fun H1 o1 r1 f1 => ⟨_, rfl, ?_⟩⟩⟩
    cases o1 with
    | none => exact ifF (by rw [decide_eq_true (show optV none = V.non from rfl)]; rfl) (q H1 r1)
    | some a =>
      refine ifT (by rw [decide_eq_false (fun e : optV (some a) = V.non => nomatch e)]; rfl) ⟨_, h11, Γ, fs, j, rfl, G.step r1, gs, hd, fun H2 o2 r2 f2 => ?_⟩
      obtain rfl := MostIs.one f2 f1
      rw [eE, er] at f1
      have := most_cut m fm f1
      refine ⟨_, h10, (a : Int), (k : Int), rfl, rfl, _, rfl, ?_⟩
      show Q (decide ((a : Int) < (k : Int))) H2
      rw [decide_eq_false (by omega)]
      exact q H2 (r1.trans r2)
end
end BF
set_option Elab.async false
set_option linter.all false
set_option maxRecDepth 100000
set_option maxHeartbeats 4000000
/-! The law. -/
namespace BF
open PySem PySem.Spec PyProof.Rows L2
/-- a step that keeps all but the well and the dicts with lots as keys -/
def Kp (W : Addr) (H H' : Hp) : Prop := ∀ b o, b ≠ W → H b = some o → (∀ kvs, o ≠ .dT kvs) → H' b = some o
section
variable {W : Addr} {H H1 H2 : Hp} {Γ : Gh} {K : PySem.W.Frag}
theorem Kp.trans (a : Kp W H H1) (b : Kp W H1 H2) : Kp W H H2 := fun c o n h k => b c o n (a c o n h k) k
theorem Kp.same (s : Same H H1) : Kp W H H1 := fun c o _ h _ => s c o h
theorem Kp.exc (s : Exc W H H1) : Kp W H H1 := fun c o n h _ => s c o n h
theorem Kp.rg (s : Rg Γ H H1) : Kp W H H1 := fun c o _ h k => s.st.keep h k
theorem Kp.lst (s : Kp W H H1) {b : Addr} {xs : List V} (n : b ≠ W) (h : H b = some (.lst xs)) : H1 b = some (.lst xs) := s b _ n h (fun _ e => nomatch e)
theorem Kp.tup (s : Kp W H H1) {b : Addr} {xs : List V} (n : b ≠ W) (h : H b = some (.tup xs)) : H1 b = some (.tup xs) := s b _ n h (fun _ e => nomatch e)
theorem WellAt.rg (w : WellAt H W) (r : Rg Γ H H1) : WellAt H1 W := let ⟨a, b, c, h⟩ := w; ⟨a, b, c, r.st.lst h⟩
theorem WellAt.same (w : WellAt H W) (r : Same H H1) : WellAt H1 W := let ⟨a, b, c, h⟩ := w; ⟨a, b, c, r _ _ h⟩
/-- a dict that is no cache -/
theorem Rg.other (r : Rg Γ H H1) {b : Addr} {o : HO} (h : H b = some o) (n : ∀ a i, Γ a = some i → i.d ≠ b) : H1 b = some o := by
  rcases r.st b o h with q | ⟨_, a, i, g, e⟩
  · exact q
  · exact absurd e (n a i g)
end
/-- the law's families: the pair, the family, its things, what it is -/
abbrev FEnt := Addr × Addr × Addr × FInfo
structure EntAt (Γ : Gh) (H : Hp) (F : Addr) (e : FEnt) : Prop where
  tp : H e.1 = some (.tup [.ref e.2.1, .ref e.2.2.1])
  th : H e.2.2.1 = some (.lst (txs e.2.2.2.E))
  ne : e.2.2.1 ≠ F
  g : Γ e.2.1 = some e.2.2.2
  dep : e.2.2.2.dep ≤ 1
  few : e.2.2.2.E.length ≤ 7
theorem cut2 (ns : List Int) : cutV (ns.map V.int) none (some 2) = (ns.take 2).map V.int := by
  unfold cutV
  rw [HT.sIx_none, show (some (2 : Int)) = some ((2 : Nat) : Int) from rfl, HT.sIx_nat, List.drop_zero, Nat.sub_zero, ← List.take_eq_take_min, List.map_take]
def XS : List Str := ["xa", "xb", "xc", "xd", "xe", "xf", "xg"]
theorem XS_nd : XS.Nodup := by decide +kernel
theorem XS_good : ∀ z ∈ XS, good z = true := by decide +kernel
def nmF (E : List Str) (x : Str) : Str := XS.getD (E.idxOf x) e0
theorem nmF_at {E : List Str} (nd : E.Nodup) {i : Nat} {x : Str} (h : E[i]? = some x) : nmF E x = XS.getD i e0 := by
  obtain ⟨hi, e⟩ := List.getElem?_eq_some_iff.mp h
  unfold nmF
  rw [← e, nd.idxOf_getElem i hi]
theorem nmF_ok {E : List Str} (l7 : E.length ≤ 7) : (∀ x ∈ E, ∀ y ∈ E, nmF E x = nmF E y → x = y) ∧ ∀ x ∈ E, good (nmF E x) = true := by
  have at_ : ∀ x ∈ E, ∃ h : E.idxOf x < XS.length, nmF E x = XS[E.idxOf x] := fun x hx => by
    have h1 := List.idxOf_lt_length_of_mem hx
    have h2 : XS.length = 7 := rfl
    have h3 : E.idxOf x < XS.length := by omega
    refine ⟨h3, ?_⟩
    unfold nmF
    rw [List.getD_eq_getElem?_getD, List.getElem?_eq_getElem h3]; rfl
  refine ⟨fun x hx y hy e => ?_, fun x hx => ?_⟩
  · obtain ⟨h1, e1⟩ := at_ x hx
    obtain ⟨h2, e2⟩ := at_ y hy
    rw [e1, e2] at e
    have e3 := (List.getElem_inj XS_nd).mp e
    have k1 := List.getElem_idxOf (List.idxOf_lt_length_of_mem hx)
    have k2 := List.getElem_idxOf (List.idxOf_lt_length_of_mem hy)
    rw [← k1, ← k2]
    simp only [e3]
  · obtain ⟨h1, e1⟩ := at_ x hx
    rw [e1]
    exact XS_good _ (List.getElem_mem h1)
theorem paired_refs {α : Type} {R : α → Addr → Prop} : ∀ {xs : List α} {us : List V}, Paired (fun x v => ∃ a, v = V.ref a ∧ R x a) xs us → ∃ ps : List Addr, us = ps.map V.ref ∧ Paired (fun p x => R x p) ps xs
  | _, _, .nil => ⟨[], rfl, .nil⟩
  | _, _, .cons q t => by
    obtain ⟨ps, h1, h2⟩ := paired_refs t
    obtain ⟨a, rfl, h⟩ := q
    exact ⟨a :: ps, by rw [h1]; rfl, .cons h h2⟩
theorem paired_mapY {α β γ : Type} {F : α → γ → Prop} (g : β → γ) : ∀ {xs : List α} {ys : List β}, Paired (fun x y => F x (g y)) xs ys → Paired F xs (ys.map g)
  | _, _, .nil => .nil
  | _, _, .cons a t => .cons a (paired_mapY g t)
def optD : Option Nat → PyData
  | none => .none
  | some n => .int n
theorem optD_dp {K : PySem.W.Frag} {H : Hp} : ∀ o, Dp K H (optV o) (optD o)
  | none => .non
  | some n => .int n
theorem optD_shaped : ∀ a b : Option Nat, SeqAt.shaped (.tuple [optD a, optD b]) = true
  | none, none => rfl
  | none, some b => rfl
  | some a, none => rfl
  | some a, some b => rfl
theorem optD_eqv (a b : Option Nat) : PyData.eqv (.tuple [optD a, optD b]) (.tuple [optD a, optD b]) = true := by
  cases a <;> cases b <;> simp [optD, PyData.eqv, PyData.eqvAll]
/-- another list than the lots' changes: the families stand -/
theorem SrcOk.gen {K : PySem.W.Frag} {Γ : Gh} {H H' : Hp} {i : FInfo} (hk : ∀ b o, H b = some o → (∀ xs, o ≠ .lst xs) → H' b = some o) (hl : ∀ l vs Bs, H l = some (.lst vs) → Paired (LotAt H) vs Bs → Bs ≠ [] → H' l = some (.lst vs)) (h : SrcOk K Γ H i) : SrcOk K Γ H' i := by
  cases h with
  | web ps es v hE hr =>
    obtain ⟨⟨dx, kt', ed, h1, h2, h3⟩, h4, h5, h6, h7⟩ := v
    exact .web ps es ⟨⟨dx, kt', ed, hk _ _ h1 (fun _ q => nomatch q), hk _ _ h2 (fun _ q => nomatch q), hk _ _ h3 (fun _ q => nomatch q)⟩, fun e he => ⟨hk _ _ (h4 e he).1 (fun _ q => nomatch q), (h4 e he).2⟩, h5, h6, h7⟩ hE hr
  | listed Bs v hr =>
    obtain ⟨⟨dx, l, vs, h1, h2, h3⟩, h4, h5⟩ := v
    exact .listed Bs ⟨⟨dx, l, vs, hk _ _ h1 (fun _ q => nomatch q), hl l vs Bs h2 h3 h5, Paired.imp (fun v l ⟨a, q, h⟩ => ⟨a, q, hk _ _ h (fun _ q => nomatch q)⟩) h3⟩, h4, h5⟩ hr
  | free dx v hr => exact .free dx (hk _ _ v (fun _ q => nomatch q)) hr
  | short dx a c j v g hd hE hr => exact .short dx a c j (hk _ _ v (fun _ q => nomatch q)) g hd hE hr
  | joined dx a b j k v g g' hd hd' hs hr => exact .joined dx a b j k (hk _ _ v (fun _ q => nomatch q)) g g' hd hd' hs hr
  | renamed dx a o j f v g hd ho hE inj hr => exact .renamed dx a o j f (hk _ _ v (fun _ q => nomatch q)) g hd (hk _ _ ho (fun _ q => nomatch q)) hE inj hr
theorem Good.gen {K : PySem.W.Frag} {Γ : Gh} {H H' : Hp} (G : Good K Γ H) (hk : ∀ b o, H b = some o → (∀ xs, o ≠ .lst xs) → H' b = some o) (hl : ∀ l vs Bs, H l = some (.lst vs) → Paired (LotAt H) vs Bs → Bs ≠ [] → H' l = some (.lst vs)) : Good K Γ H' :=
  ⟨fun a i g => by
    obtain ⟨⟨dx, h1⟩, h2, ⟨kvs, h3, h3'⟩, h4, h5, h6, h7, h8⟩ := G.fam a i g
    exact ⟨⟨dx, hk _ _ h1 (fun _ q => nomatch q)⟩, hk _ _ h2 (fun _ q => nomatch q), ⟨kvs, hk _ _ h3 (fun _ q => nomatch q), h3'⟩, h4.gen hk hl, h5, h6, h7, h8⟩, G.inj⟩
theorem txs_ref {B : List Str} {a : Addr} {r : List V} (h : V.ref a :: r = txs B) : False := by
  cases B with
  | nil => cases h
  | cons x B =>
    have h : V.ref a :: r = V.str x :: txs B := h
    injection h with h _
    cases h
/-- one more in the law's list -/
theorem Good.grow {K : PySem.W.Frag} {Γ : Gh} {H : Hp} {F : Addr} {es : List FEnt} {o : HO} (G : Good K Γ H) (hF : H F = some (.lst (es.map fun e => V.ref e.1))) (tp : ∀ e ∈ es, H e.1 = some (.tup [.ref e.2.1, .ref e.2.2.1])) : Good K Γ (upd H F o) := by
  refine G.gen (fun b u h n => ?_) fun l vs Bs h p ne => ?_
  · rw [upd_ne (fun e => by rw [e, hF] at h; exact n _ (Option.some.inj h).symm)]; exact h
  · rw [upd_ne (fun e => ?_)]
    · exact h
    · rw [e, hF] at h
      injection h with h
      injection h with h
      subst h
      cases es with
      | nil =>
        cases p
        exact ne rfl
      | cons x es =>
        cases p with
        | cons q _ =>
          obtain ⟨a, q1, q2⟩ := q
          have q1 : V.ref x.1 = V.ref a := q1
          injection q1 with q1
          have h2 := tp x List.mem_cons_self
          rw [q1, q2] at h2
          injection h2 with h2
          injection h2 with h2
          exact txs_ref h2.symm
def spLaw (K : PySem.W.Frag) : Sp := fun vs H Q _ => ∃ (a : Addr) (ns : List Int), vs = [.ref a] ∧ SqL K H a (ns.map V.int) ∧ ∀ H', Q (.bl true) H'
abbrev lN : List Str := ["_law_script", "_law_families", "_law_cell", "_law_well", "_law_family", "_law_things", "_law_bases_here", "_law_ranks_here", "_law_whole", "_law_low", "_law_high", "_law_short", "_law_one", "_law_other", "_law_others", "_law_names_here", "_law_k", "_law_thing", "_law_both"]
theorem sc_law : FnScope lN ["_law_script"] (defScope s_law) := ⟨rfl, rfl, rfl, by decide +kernel, rfl, by decide +kernel, by decide +kernel⟩
section
variable {P : Program} {w : World} {K : PySem.W.Frag} {mg : Str → Option Value} {base : Heap}
/-- a def at its function object -/
theorem fn_at {N ps : List Str} {k : Nat} {sp : Sp} {d : He.DefD} {dvs : List V} {kws : List (Str × V)} {fd : FuncData} (F : FunD K d.name d.qual d.params d.body d.scope dvs kws (He.fAd K d.at_) fd) (S : FnScope N ps d.scope) (len : ∀ vs H Q E, sp vs H Q E → vs.length = ps.length)
    (hbody : ∀ (cdv : Value) (A : Around) (outer : List Env) (s : Shared) (H : Hp) (vs : List V) (Q : VK) (E : XK), Room k (A.deeper (envOfC d.qual d.scope s.heap.objs.size (He.fAd K d.at_) cdv)) → sp vs H Q E →
      ∃ t, PSs (cxOf CX0 P w K mg base N d.qual d.scope (He.fAd K d.at_) cdv A outer s H E).nox d.body t ∧ t { nx := fun _ H' => Q .non H', rt := Q } (start N vs) H) : FnOk P w K mg base CX0 (k + 1) (He.fAd K d.at_) fd ps sp :=
  F.ok S len fun cdv A outer s H vs Q E hr h => by
    obtain ⟨t, a, b⟩ := hbody cdv A outer s H vs Q E hr h
    exact ⟨t, a.nox, b⟩
theorem ok_law (T : TX K mg) {dvs : List V} {kws : List (Str × V)} {fd : FuncData} (FD : FunD K d_law.name d_law.qual d_law.params d_law.body d_law.scope dvs kws (He.fAd K d_law.at_) fd) : FnOk P w K mg base CX0 17 (He.fAd K d_law.at_) fd ["_law_script"] (spLaw K) := by
  refine fn_at FD sc_law (fun vs H Q E h => ?_) (fun cdv A outer s H vs Q E hr h => ?_)
  · obtain ⟨a, ns, rfl, _⟩ := h; rfl
  · obtain ⟨a, ns, rfl, hns, kk⟩ := h
    have nd := sc_law.nd
    refine ⟨_, pss_cons (ps_set (i := 1) nd rfl (Or.inl rfl) (pe_lst pa_nil)) <|
      pss_cons (ps_for PassesOwn.never rfl (pi_list (pe_op op_cat (pe_slice sl_list (pv 0) po_none (po_some pe_int)) (pe_lst (pa_cons pe_int (pa_cons pe_int pa_nil))))) (pg_name (i := 2) nd rfl (Or.inl rfl)) <|
        pss_cons (ps_set (i := 3) nd rfl (Or.inl rfl) (pe_cl (ok_law_source T) (hr.mono (by omega)) T.g_law_source (pa_cons (pv 2) pa_nil))) <|
        pss_cons (ps_asg (pe_cl (ok_law_world T) (hr.mono (by omega)) T.g_law_world (pa_cons (pv 3) (pa_cons pe_int pa_nil))) (pg_tup (by rfl) (pgs_cons (pg_name (i := 4) nd rfl (Or.inl rfl)) (pgs_cons (pg_name (i := 5) nd rfl (Or.inl rfl)) (pgs_cons (pg_name (i := 6) nd rfl (Or.inl rfl)) pgs_nil))))) <|
        pss_cons (ps_set (i := 7) nd rfl (Or.inl rfl) (pe_cl (ok_law_ranks T) (hr.mono (by omega)) T.g_law_ranks (pa_cons (pv 6) (pa_cons (pv 5) pa_nil)))) <|
        pss_cons (ps_set (i := 8) nd rfl (Or.inl rfl) (pe_callB call_len_seq (by rfl) T.f_len (by decide +kernel) (pa_cons (pe_ix ix_list (pv 6) pe_int (fun _ _ => rfl)) pa_nil))) <|
        pss_cons (ps_par (i := 9) (j := 10) rfl nd rfl rfl (by decide) rfl rfl (pa_cons (pe_cl (ok_fewest T 4) (hr.mono (by omega)) T.g_fewest (pa_cons (pv 4) pa_nil)) (pa_cons (pe_cl (ok_most T 4) (hr.mono (by omega)) T.g_most (pa_cons (pv 4) pa_nil)) pa_nil)) rfl) <|
        pss_cons (ps_if (pt_imp (t' := tT1 K) (pw_or (pt_not (pt_val (pe_cl (ok_law_like T) (hr.mono (by omega)) T.g_law_like (pa_cons (pv 9) (pa_cons (pe_cl (ok_law_fewest T) (hr.mono (by omega)) T.g_law_fewest (pa_cons (pv 7) pa_nil)) pa_nil))))) (pw_or1 (pt_not (pt_val (pe_cl (ok_law_like T) (hr.mono (by omega)) T.g_law_like (pa_cons (pv 10) (pa_cons (pe_cl (ok_law_most T) (hr.mono (by omega)) T.g_law_most (pa_cons (pv 7) (pa_cons (pv 5) (pa_cons (pv 8) pa_nil)))) pa_nil))))))).pt (fun σ H Q h => t1_ok h)) pss_never pss_nil) <|
        pss_cons (ps_if (pt_imp (t' := tT2 K) (pw_and (pt_cmp (pc_notN (pv 9))) (pw_and1 (pw_or (pt_cmp (pc_isN (pe_cl (ok_covered T 4) (hr.mono (by omega)) T.g_covered (pa_cons (pv 4) (pa_cons (pv 9) pa_nil))))) (pw_or1 (pw_and (pt_cmp (pc_gt (pv 9) pe_int)) (pw_and1 (pt_cmp (pc_notN (pe_cl (ok_covered T 4) (hr.mono (by omega)) T.g_covered (pa_cons (pv 4) (pa_cons (pe_sub (pv 9) pe_int) pa_nil))))))).pt)).pt)).pt (fun σ H Q h => t2_ok h)) pss_never pss_nil) <|
        pss_cons (ps_if (pt_imp (t' := tT3 K) (pw_and (pt_cmp (pc_notN (pv 10))) (pw_and1 (pw_or (pt_cmp (pc_isN (pe_cl (ok_packed T 4) (hr.mono (by omega)) T.g_packed (pa_cons (pv 4) (pa_cons (pv 10) pa_nil))))) (pw_or1 (pt_cmp (pc_notN (pe_cl (ok_packed T 4) (hr.mono (by omega)) T.g_packed (pa_cons (pv 4) (pa_cons (pe_add (pv 10) pe_int) pa_nil))))))).pt)).pt (fun σ H Q h => t3_ok h)) pss_never pss_nil) <|
        pss_cons (ps_set (i := 11) nd rfl (Or.inl rfl) (pe_cl (ok_cut_short T) (hr.mono (by omega)) T.g_cut_short (pa_cons (pv 4) (pa_cons (pe_cl (ok_law_draw T) (hr.mono (by omega)) T.g_law_draw (pa_cons (pv 3) (pa_cons (pe_add (pv 8) pe_int) pa_nil))) pa_nil)))) <|
        pss_cons (ps_if (pt_imp (t' := tT4 K) (pw_and (pt_cmp (pc_notN (pv 9))) (pw_and (pt_cmp (pc_notN (pe_cl (ok_fewest T 4) (hr.mono (by omega)) T.g_fewest (pa_cons (pv 11) pa_nil)))) (pw_and1 (pt_cmp (pc_lt (pe_cl (ok_fewest T 4) (hr.mono (by omega)) T.g_fewest (pa_cons (pv 11) pa_nil)) (pv 9)))))).pt (fun σ H Q h => t4_ok h)) pss_never pss_nil) <|
        pss_cons (ps_if (pt_imp (t' := tT5 K) (pw_and (pt_cmp (pc_notN (pv 10))) (pw_and (pt_cmp (pc_notN (pe_cl (ok_most T 4) (hr.mono (by omega)) T.g_most (pa_cons (pv 11) pa_nil)))) (pw_and1 (pt_cmp (pc_lt (pe_cl (ok_most T 4) (hr.mono (by omega)) T.g_most (pa_cons (pv 11) pa_nil)) (pv 10)))))).pt (fun σ H Q h => t5_ok h)) pss_never pss_nil) <|
        pss_one (ps_expr (pe_bm PySem.F.plainAttrs_list PySem.F.slot_list_append PySem.F.type_list_append mt_append (pv 1) (pa_cons (pe_tup (pa_cons (pv 4) (pa_cons (pv 5) pa_nil))) pa_nil)))) <|
      pss_cons (ps_asg (pe_ix ix_list (pv 1) pe_int (fun _ _ => rfl)) (pg_tup (by rfl) (pgs_cons (pg_name (i := 12) nd rfl (Or.inl rfl)) (pgs_cons (pg_name (i := 5) nd rfl (Or.inl rfl)) pgs_nil)))) <|
      pss_cons (ps_asg (pe_ix ix_list (pv 1) pe_int (fun _ _ => rfl)) (pg_tup (by rfl) (pgs_cons (pg_name (i := 13) nd rfl (Or.inl rfl)) (pgs_cons (pg_name (i := 14) nd rfl (Or.inr rfl)) pgs_nil)))) <|
      pss_cons (ps_set (i := 15) nd rfl (Or.inr rfl) (pe_callTy (call_dictP rfl) (by rfl) T.f_dict (by decide +kernel) (pa_cons
        (pe_lc (own := [("_law_k", 16)]) (g := gName 16) rfl nd (pi_range1 (by rfl) T.f_range (pa_cons (pe_callB call_len_seq (by rfl) T.f_len (by decide +kernel) (pa_cons (pv 14) pa_nil)) pa_nil)) (blkOk_by (N := lN) (sc := defScope s_law) (by decide +kernel)) (fun _ _ _ _ _ => pg_name (i := 16) nd rfl (Or.inl rfl)) (fun _ _ _ _ _ => pts_nil)
          (fun _ _ _ _ _ => pe_tup (pa_cons (pe_ix (ixList K) (pv 14) (pv 16) (fun _ _ => rfl)) (pa_cons (pe_ix (ixList K) (pe_lst (pa_cons pe_str (pa_cons pe_str (pa_cons pe_str (pa_cons pe_str (pa_cons pe_str (pa_cons pe_str (pa_cons pe_str pa_nil)))))))) (pv 16) (fun _ _ => rfl)) pa_nil)))) pa_nil))) <|
      pss_cons (ps_if (pt_cmp (pc_gt (pe_callB call_len_seq (by rfl) T.f_len (by decide +kernel) (pa_cons
        (pe_lc (own := [("_law_thing", 17)]) (g := gName 17) rfl nd (pi_list (pv 5)) (blkOk_by (N := lN) (sc := defScope s_law) (by decide +kernel)) (fun _ _ _ _ _ => pg_name (i := 17) nd rfl (Or.inl rfl))
          (fun _ _ _ _ _ => pts_one (pt_cmpR (opIn K) (pv 17) (pe_listVals rfl (pv 15) (by rfl) T.f_list (by decide +kernel)) (by rfl))) (fun _ _ _ _ _ => pv 17)) pa_nil)) pe_int)) (pss_one (ps_ret pe_bl)) pss_nil) <|
      pss_cons (ps_set (i := 18) nd rfl (Or.inl rfl) (pe_cl (ok_joined T) (hr.mono (by omega)) T.g_joined (pa_cons (pv 12) (pa_cons (pe_cl (ok_named T) (hr.mono (by omega)) T.g_named (pa_cons (pv 13) (pa_cons (pv 15) pa_nil))) pa_nil)))) <|
      pss_one (ps_ret (pe_cmpR (op_eqD hr.units) (pe_tup (pa_cons (pe_cl (ok_fewest T 4) (hr.mono (by omega)) T.g_fewest (pa_cons (pv 18) pa_nil)) (pa_cons (pe_cl (ok_most T 4) (hr.mono (by omega)) T.g_most (pa_cons (pv 18) pa_nil)) pa_nil))) (pe_cl (ok_law_sided T) hr T.g_law_sided (pa_cons (pv 12) (pa_cons (pv 13) pa_nil))) (by rfl))), ?_⟩
    refine ⟨by rw [sizeLine_eq]; simp, fun F hF => ?_⟩
    have s1 : Same H (upd H F (.lst [])) := same_new hF
    have hF1 : upd H F (.lst []) F = some (.lst (([] : List FEnt).map fun e => V.ref e.1)) := upd_same
    generalize upd H F (.lst []) = H1 at *
    refine ⟨_, rfl, 2, rfl, a, _, rfl, same_seqL s1 hns, fun c hc => ⟨by rw [sizeLine_eq]; simp, fun q hq => ?_⟩⟩
    have s2 : Same H1 (upd H1 c (.lst (cutV (ns.map V.int) none (some 2)))) := same_new hc
    have hc2 : upd H1 c (.lst (cutV (ns.map V.int) none (some 2))) c = some (.lst ((ns.take 2).map V.int)) := by rw [upd_same, cut2]
    generalize upd H1 c (.lst (cutV (ns.map V.int) none (some 2))) = H2 at *
    have s3 : Same H2 (upd H2 q (.lst [.int 0, .int 1])) := same_new hq
    have hq3 : upd H2 q (.lst [.int 0, .int 1]) q = some (.lst [.int 0, .int 1]) := upd_same
    generalize upd H2 q (.lst [.int 0, .int 1]) = H3 at *
    have l4 : ((ns.take 2).map V.int).length ≤ 2 := by rw [List.length_map, List.length_take]; omega
    refine ⟨c, q, _, _, rfl, rfl, s3 _ _ hc2, hq3, by rw [sizeLine_eq]; simp only [List.length_cons, List.length_nil]; omega, fun L hL => ⟨L, rfl, ⟨_, SqL.of upd_same⟩, ?_⟩⟩
    have em : (ns.take 2).map V.int ++ [V.int 0, V.int 1] = (ns.take 2 ++ [0, 1]).map V.int := by rw [List.map_append]; rfl
    rw [em]
    have lm : 2 ≤ (ns.take 2 ++ [(0 : Int), 1]).length := by simp
    have lm2 : (ns.take 2 ++ [(0 : Int), 1]).length ≤ 4 := by rw [List.length_append, List.length_take]; simp; omega
    generalize (ns.take 2 ++ [(0 : Int), 1]) = ms at *
    have s4 : Same H3 (upd H3 L (.lst (ms.map V.int))) := same_new hL
    have hL4 : upd H3 L (.lst (ms.map V.int)) L = some (.lst (ms.map V.int)) := upd_same
    have hF3 := (s2.trans s3) _ _ hF1
    have LF : L ≠ F := fun e => by rw [e, hF3] at hL; cases hL
    have hF4 := s4 _ _ hF3
    generalize upd H3 L (.lst (ms.map V.int)) = H4 at *
    refine forL (xs := ms.map V.int) (fun j σ H5 => (∃ o2 o3 o4 o5 o6 o7 o8 o9 o10 o11, σ = [some (.ref a), some (.ref F), o2, o3, o4, o5, o6, o7, o8, o9, o10, o11, none, none, none, none, none, none, none]) ∧ ∃ (Γ : Gh) (es : List FEnt), Good K Γ H5 ∧ H5 F = some (.lst (es.map fun e => V.ref e.1)) ∧ es.length = j ∧ (∀ e ∈ es, EntAt Γ H5 F e) ∧ H5 L = some (.lst (ms.map V.int)))
      (fun i σ H5 ⟨_, _, _, _, _, _, _, h⟩ => SqL.of h) ⟨⟨none, none, none, none, none, none, none, none, none, none, rfl⟩, fun _ => none, [], ⟨fun _ _ g => (nomatch g), fun _ _ _ _ g => (nomatch g)⟩, hF4, rfl, fun e he => (by cases he), hL4⟩ ?_ ?_
    · rintro σ H5 ⟨⟨o2, o3, o4, o5, o6, o7, o8, o9, o10, o11, rfl⟩, Γ, es, G, hF5, les, ents, _⟩
      rw [List.length_map] at les
      obtain ⟨⟨t0, f0, th0, i0⟩, ⟨t1, f1, th1, i1⟩, rest, rfl⟩ : ∃ x y r, es = x :: y :: r := by
        match es, les with
        | [], l => simp at l; omega
        | [x], l => simp at l; omega
        | x :: y :: r, _ => exact ⟨x, y, r, rfl⟩
      have A0 := ents _ List.mem_cons_self
      have A1 := ents _ (List.mem_cons_of_mem _ List.mem_cons_self)
      have few0 : i0.E.length ≤ 7 := A0.few
      have few1 : i1.E.length ≤ 7 := A1.few
      have dep0 : i0.dep ≤ 1 := A0.dep
      have dep1 : i1.dep ≤ 1 := A1.dep
      refine ⟨_, rfl, F, _, 0, _, rfl, rfl, SqL.of hF5, atI_nat (j := 0) rfl, ?_⟩
      refine ⟨_, _, rfl, SqT.of A0.tp, rfl, _, _, rfl, _, _, rfl, rfl, ?_⟩
      refine ⟨_, rfl, F, _, 1, _, rfl, rfl, SqL.of hF5, atI_nat (j := 1) rfl, ?_⟩
      refine ⟨_, _, rfl, SqT.of A1.tp, rfl, _, _, rfl, _, _, rfl, rfl, ?_⟩
      have F1 := G.fam _ _ A1.g
      have nd1 : i1.E.Nodup := F1.mat.nd
      refine ⟨_, rfl, th1, txs i1.E, rfl, .inl (SqL.of A1.th), _, rfl, by omega, by rw [List.length_map]; omega, fun D hD => ?_⟩
      rw [show (((txs i1.E).length : Nat) : Int).toNat = i1.E.length by rw [List.length_map]; rfl]
      refine lcJ (H0 := H5) (same_frm H5) (src_rng (n := i1.E.length)) (fun _ => true) (fun D k v H6 => ∃ a, v = V.ref a ∧ H6 a = some (.tup [.str (i1.E.getD k e0), .str (XS.getD k e0)])) (by simp; omega)
        (fun k v H6 H7 _ ⟨a, e, h⟩ r => ⟨a, e, r _ _ h⟩) (fun k v H6 l l' ⟨a, e, h⟩ hl => ⟨a, e, by rw [upd_ne (fun z => by rw [z, hl] at h; cases h)]; exact h⟩) (fun x => rfl) hD (same_new hD) ?_ ?_ ?_
      · intro k x H6 Qb hi r q
        exact q H6 (Same.refl _)
      · intro k x H6 Qv hk _ r q
        have hk' : k < i1.E.length := by
          have := (List.getElem?_eq_some_iff.mp hk).1
          simpa using this
        have ex : x = .int (k : Int) := by
          rw [List.getElem?_map, List.getElem?_range hk'] at hk
          exact (Option.some.inj hk).symm
        subst ex
        obtain ⟨y, hy⟩ : ∃ y, i1.E[k]? = some y := ⟨_, List.getElem?_eq_getElem hk'⟩
        obtain ⟨z, hz⟩ : ∃ z, XS[k]? = some z := ⟨_, List.getElem?_eq_getElem (show k < XS.length from (by have : XS.length = 7 := rfl; omega))⟩
        refine ⟨_, rfl, _, rfl, th1, txs i1.E, (k : Int), .str y, rfl, rfl, SqL.of (r _ _ A1.th), atI_nat (by rw [List.getElem?_map, hy]; rfl), by rw [sizeLine_eq]; simp, fun nl hnl => ⟨_, rfl, nl, txs XS, (k : Int), .str z, rfl, rfl, SqL.of upd_same, atI_nat (by rw [List.getElem?_map, hz]; rfl), len2, fun t ht => ?_⟩⟩
        refine q (.ref t) _ ((same_new hnl).trans (same_new ht)) ⟨t, rfl, ?_⟩
        rw [upd_same, getD_at (d := e0) hy, getD_at (d := e0) hz]
      · intro H6 us s6 hD6 pus
        rw [picks_all, List.length_map, List.length_range] at pus
        obtain ⟨ps, rfl, pps⟩ := paired_refs (R := fun k a => H6 a = some (.tup [.str (i1.E.getD k e0), .str (XS.getD k e0)])) pus
        have ekv : (List.range i1.E.length).map (fun k => ((Sum.inr (i1.E.getD k e0) : Key), V.str (XS.getD k e0))) = dictF i1.E (fun x => .str (nmF i1.E x)) := by
          have := map_range' (fun x : Str => ((Sum.inr x : Key), V.str (nmF i1.E x))) e0 i1.E
          show _ = i1.E.map fun x => ((Sum.inr x : Key), V.str (nmF i1.E x))
          rw [← this]
          refine List.map_congr_left fun k hk => ?_
          have h := List.getElem?_eq_getElem (List.mem_range.mp hk)
          rw [getD_at (d := e0) h, nmF_at nd1 h]
        have pkv : Paired (fun p (kv : Key × V) => SqT K H6 p [kV kv.1, kv.2]) ps (dictF i1.E (fun x => .str (nmF i1.E x))) := by
          rw [← ekv]
          exact paired_mapY _ (Paired.imp (fun p k q => SqT.of q) pps)
        refine ⟨D, ps, _, rfl, SqL.of hD6, pkv, fun nm hnm => ?_⟩
        rw [mergeK_new _ [] (by rw [List.nil_append, keys_of]; exact nd_map _ _ nd1 fun a _ b _ e => Sum.inr.inj e), List.nil_append]
        have s7 : Same H6 (upd H6 nm (.dK (dictF i1.E (fun x => .str (nmF i1.E x))))) := same_new hnm
        have hnm7 : upd H6 nm (.dK (dictF i1.E (fun x => .str (nmF i1.E x)))) nm = some (.dK (dictF i1.E (fun x => .str (nmF i1.E x)))) := upd_same
        generalize upd H6 nm (.dK (dictF i1.E (fun x => .str (nmF i1.E x)))) = H7 at *
        have s57 := s6.trans s7
        have hth0 := s57 _ _ A0.th
        refine ⟨_, rfl, th0, rfl, ⟨_, SqL.of hth0⟩, fun D2 hD2 => ?_⟩
        have ev : (dictF i1.E fun x => V.str (nmF i1.E x)).map (·.2) = txs (i1.E.map (nmF i1.E)) := by
          show _ = List.map V.str _
          rw [List.map_map, List.map_map]; rfl
        refine lcV (H0 := H7) (same_frm H7) (src_list fun H' r => SqL.of (r _ _ hth0)) (fun k => mem (i1.E.map (nmF i1.E)) (i0.E.getD k e0)) (fun k => .str (i0.E.getD k e0)) (by simp; omega) (fun x => rfl) hD2 (same_new hD2) ?_ ?_ ?_
        · intro k x H8 Qb hk r q
          obtain ⟨y, hy, rfl⟩ := txs_at hk
          refine ⟨_, rfl, _, rfl, nm, _, rfl, r _ _ hnm7, fun vl hvl => ⟨vl, _, rfl, .inl (SqL.of upd_same), rfl, ?_, _, rfl, ?_⟩⟩
          · rw [ev]; exact flat_txs _
          · rw [ev, if_neg (by decide), inV_txs]
            have := q _ (same_new (o := .lst (txs (i1.E.map (nmF i1.E)))) hvl)
            rw [getD_at (d := e0) hy] at this
            exact this
        · intro k x H8 Qv hk _ r q
          obtain ⟨y, hy, rfl⟩ := txs_at hk
          refine ⟨_, rfl, ?_⟩
          rw [← getD_at (d := e0) hy]
          exact q H8 (Same.refl _)
        · intro H8 s8 hD8
          have e8 : (picks (txs i0.E).length fun k => mem (i1.E.map (nmF i1.E)) (i0.E.getD k e0)).map (fun k => V.str (i0.E.getD k e0)) = txs (i0.E.filter (mem (i1.E.map (nmF i1.E)))) := by
            rw [List.length_map]; exact picks_filter V.str e0 (mem (i1.E.map (nmF i1.E))) i0.E
          rw [e8] at hD8
          refine ⟨D2, _, rfl, .inl (SqL.of hD8), _, _, rfl, rfl, _, rfl, ?_⟩
          by_cases z : 0 < (i0.E.filter (mem (i1.E.map (nmF i1.E)))).length
          · exact ifT (decide_eq_true (by rw [List.length_map]; omega)) (kk H8)
          · refine ifF (decide_eq_false (by rw [List.length_map]; omega)) ?_
            have disj : ∀ x ∈ i0.E, x ∉ i1.E.map (nmF i1.E) := fun x hx hm => z (List.length_pos_iff.mpr (List.ne_nil_of_mem (List.mem_filter.mpr ⟨hx, mem_t.mpr hm⟩)))
            have s58 := s57.trans s8
            have G8 := G.same s58
            obtain ⟨inj, gnm⟩ := nmF_ok few1
            refine ⟨_, rfl, _, rfl, _, rfl, Γ, f1, nm, i1, nmF i1.E, rfl, G8, A1.g, s8 _ _ hnm7, inj, gnm, fun H9 fn j nf jE jr jd => ?_⟩
            have G9 := G8.more nf
            have le9 := more_le (i := j) (G8.none_of nf.np)
            have gj : BF.more Γ fn j fn = some j := by unfold BF.more; rw [if_pos rfl]
            have g09 := le9 _ _ A0.g
            have g19 := le9 _ _ A1.g
            have m0 := (G9.fam _ _ g09).mat
            have mj := (G9.fam _ _ gj).mat
            refine ⟨BF.more Γ fn j, f0, fn, i0, j, rfl, G9, g09, gj, fun x hx hj => disj x hx (jE.mem_iff.mp hj), few0, by rw [jE.length_eq, List.length_map]; exact few1, fun H10 fb t nf2 sd tr td => ?_⟩
            have G10 := G9.more nf2
            have le10 := more_le (i := t) (G9.none_of nf2.np)
            have gt : BF.more (BF.more Γ fn j) fb t fb = some t := by
              conv => lhs; unfold BF.more
              rw [if_pos rfl]
            have dt : t.dep < 4 := by omega
            generalize BF.more (BF.more Γ fn j) fb t = Γt at *
            refine ⟨_, rfl, Γt, fb, t, rfl, G10, gt, dt, fun H11 o r11 fo => ⟨_, rfl, Γt, fb, t, rfl, G10.step r11, gt, dt, fun H12 p r12 mo => ⟨len2, fun tt htt => ?_⟩⟩⟩
            have s13 : Same H12 (upd H12 tt (.tup [optV o, optV p])) := same_new htt
            have htt13 : upd H12 tt (.tup [optV o, optV p]) tt = some (.tup [optV o, optV p]) := upd_same
            generalize upd H12 tt (.tup [optV o, optV p]) = H13 at *
            refine ⟨_, rfl, _, rfl, Γt, f0, f1, i0, i1, rfl, ((G10.step r11).step r12).same s13, le10 _ _ g09, le10 _ _ g19, by omega, by omega, fun H14 q o1 o2 p1 p2 r14 a1 a2 b1 b2 hq => ?_⟩
            have eo : o = sideFew o1 o2 := FewIs.one fo (by
              rw [tr]
              refine sd.few m0 mj a1 ?_
              rw [jr]; exact few_ren jE inj a2)
            have ep : p = sideMost p1 p2 := MostIs.one mo (by
              rw [tr]
              refine sd.most m0 mj b1 ?_
              rw [jr]; exact most_ren jE inj b2)
            rw [← eo, ← ep] at hq
            refine ⟨.tuple [optD o, optD p], .tuple [optD o, optD p], .tup (SqT.of (r14.st.tup htt13)) (.cons (optD_dp _) (.cons (optD_dp _) .nil)), .tup (SqT.of hq) (.cons (optD_dp _) (.cons (optD_dp _) .nil)), optD_shaped o p, optD_shaped o p, ?_⟩
            rw [optD_eqv]
            exact kk _
    · rintro j v σ H5 hj ⟨⟨o2, o3, o4, o5, o6, o7, o8, o9, o10, o11, rfl⟩, Γ, es, G, hF5, les, ents, hL5⟩ N hN
      have jm : j < ms.length := by
        have := (List.getElem?_eq_some_iff.mp hj).1
        rw [List.length_map] at this; exact this
      rw [List.getElem?_map] at hj
      obtain ⟨n, hn, rfl⟩ := Option.map_eq_some_iff.mp hj
      refine ⟨_, rfl, n, rfl, fun H6 W s6 hW w6 => ?_⟩
      have neW : ∀ {b o}, H5 b = some o → b ≠ W := fun h e => by rw [e, hW] at h; cases h
      have WF := neW hF5
      have LW := neW hL5
      refine ⟨_, rfl, W, Γ, rfl, w6, G.same s6, fun H7 p fa th bl us i Bs Γ7 d7 hth0 G7 le7 gfa hdep hp hth hbl pB bs lB l7 => ?_⟩
      have thW := w6.ne0 hth0
      have thF : th ≠ F := fun e => by rw [e, s6 _ _ hF5] at hth0; cases hth0
      refine ⟨_, _, rfl, SqT.of hp, rfl, _, _, rfl, _, _, rfl, _, _, rfl, rfl, ?_⟩
      have FI := G7.fam fa i gfa
      have m := FI.mat
      have okE : ∀ x ∈ i.E, PyData.strOk x = true := fun x hx => good_ok (FI.gd x hx)
      refine ⟨_, rfl, _, rfl, bl, th, us, Bs, i.E, i.E, i.r, rfl, hbl, pB, bs.ne m, lB, .inl (SqL.of hth), .refl _, FI.srt, m.nd, l7, okE, fun l sl => ⟨bs.some m sl, fun B hB => bs.none_more m sl hB⟩, fun H8 rd s8 hrd0 hrd => ?_⟩
      have G8 := G7.same s8
      have l0 : 0 < us.length := by rw [Paired.length pB]; exact List.length_pos_iff.mpr (bs.ne m)
      have hu0 := List.getElem?_eq_getElem l0
      obtain ⟨B0, hB0, b0, eb0, hb0⟩ := paired_at pB hu0
      rw [eb0] at hu0
      have eW : (txs B0).length = i.r i.E := by rw [List.length_map, bs.top B0 (List.mem_of_getElem? hB0), rho_full]
      refine ⟨_, rfl, bl, us, 0, _, rfl, rfl, SqL.of (s8 _ _ hbl), atI_nat (j := 0) hu0, b0, txs B0, rfl, .inr (SqT.of (s8 _ _ hb0)), ?_⟩
      rw [eW]
      refine ⟨_, rfl, Γ7, fa, i, rfl, G8, gfa, by omega, fun H9 lo r9 flo => ⟨_, rfl, Γ7, fa, i, rfl, G8.step r9, gfa, by omega, fun H10 hi r10 fhi => ⟨_, _, rfl, ?_⟩⟩⟩
      have r810 := r9.trans r10
      have G10 := G8.step r810
      have hrd10 := r810.other hrd fun b z g e => by
        obtain ⟨kvs, h, _⟩ := (G7.fam b z g).ca
        rw [e, hrd0] at h; cases h
      have hth8 := s8 _ _ hth
      have hth10 := r810.st.lst hth8
      refine ⟨rd, th, i.E, i.r, lo, hi, rfl, rfl, rfl, rfl, rfl, hrd10, SqL.of hth10, m, FI.srt, l7, okE, flo, fhi, fun H11 s11 => iteF ?_⟩
      have G11 := G10.same s11
      refine ⟨Γ7, fa, i, lo, rfl, rfl, G11, gfa, by omega, flo, fun H12 r12 => iteF ?_⟩
      have G12 := G11.step r12
      refine ⟨Γ7, fa, i, hi, rfl, rfl, G12, gfa, by omega, fhi, fun H13 r13 => iteF ?_⟩
      have G13 := G12.step r13
      have w13 : WellAt H13 W := ((((d7.at_.same s8).rg r810).same s11).rg r12).rg r13
      have rE : i.r i.E ≤ 7 := Nat.le_trans (m.rk_le (List.Sublist.refl _)) l7
      refine ⟨_, rfl, _, rfl, _, rfl, _, _, rfl, rfl, W, _, rfl, by omega, by omega, w13, fun H14 k14 ex14 w14 hk14 => ⟨Γ7, fa, i, k14, rfl, G13.dr w13 ex14, gfa, fun H15 fs sj nf sjE sjr sjd => ?_⟩⟩
      have G14 := G13.dr w13 ex14
      have G15 := G14.more nf
      have le15 := more_le (i := sj) (G14.none_of nf.np)
      have gs : BF.more Γ7 fs sj fs = some sj := by unfold BF.more; rw [if_pos rfl]
      generalize BF.more Γ7 fs sj = Γ15 at *
      refine ⟨Γ15, fs, sj, k14, i.E, i.r, lo, rfl, rfl, G15, gs, by omega, sjE, sjr, m, flo, fun H16 r16 => iteF ?_⟩
      have G16 := G15.step r16
      refine ⟨Γ15, fs, sj, k14, i.E, i.r, hi, rfl, rfl, G16, gs, by omega, sjE, sjr, m, fhi, fun H17 r17 => iteF ?_⟩
      have G17 := G16.step r17
      have k7 : Kp W H7 H17 := (Kp.same s8).trans <| (Kp.rg r810).trans <| (Kp.same s11).trans <| (Kp.rg r12).trans <| (Kp.rg r13).trans <| (Kp.exc ex14).trans <| (Kp.same nf.st).trans <| (Kp.rg r16).trans (Kp.rg r17)
      have kp : Kp W H5 H17 := (Kp.same s6).trans <| (Kp.exc d7.ex).trans k7
      have hF17 := kp.lst WF hF5
      have hL17 := kp.lst LW hL5
      have hth17 := k7.lst thW hth
      have tp17 : ∀ e ∈ es, H17 e.1 = some (.tup [.ref e.2.1, .ref e.2.2.1]) := fun e he => kp.tup (neW (ents e he).tp) (ents e he).tp
      have th17 : ∀ e ∈ es, H17 e.2.2.1 = some (.lst (txs e.2.2.2.E)) := fun e he => kp.lst (neW (ents e he).th) (ents e he).th
      refine ⟨_, rfl, .inl ⟨rfl, _, SqL.of hF17⟩, _, rfl, _, rfl, len2, fun t ht => ?_⟩
      have s18 : Same H17 (upd H17 t (.tup [.ref fa, .ref th])) := same_new ht
      have ht18 : upd H17 t (.tup [.ref fa, .ref th]) t = some (.tup [.ref fa, .ref th]) := upd_same
      generalize upd H17 t (.tup [.ref fa, .ref th]) = H18 at *
      have hF18 := s18 _ _ hF17
      have tF : ∀ {b : Addr} {xs : List V}, H18 b = some (.tup xs) → b ≠ F := fun h e => by rw [e, hF18] at h; cases h
      refine ⟨F, _, _, rfl, rfl, hF18, by rw [List.length_map, sizeLine_eq]; omega, hN _ _ ⟨⟨_, _, _, _, _, _, _, _, _, _, rfl⟩, Γ15, es ++ [(t, fa, th, i)], (G17.same s18).grow hF18 (fun e he => s18 _ _ (tp17 e he)), ?_, ?_, fun e he => ?_, ?_⟩⟩
      · rw [upd_same, List.map_append]; rfl
      · rw [List.length_append, les]; rfl
      · rcases List.mem_append.mp he with he | he
        · have A := ents e he
          refine ⟨?_, ?_, A.ne, le15 _ _ (le7 _ _ A.g), A.dep, A.few⟩
          · have h := s18 _ _ (tp17 e he)
            rw [upd_ne (tF h)]; exact h
          · rw [upd_ne A.ne]; exact s18 _ _ (th17 e he)
        · rw [List.mem_singleton.mp he]
          refine ⟨?_, ?_, thF, le15 _ _ gfa, hdep, l7⟩
          · show upd H18 F _ t = _
            rw [upd_ne (tF ht18)]; exact ht18
          · show upd H18 F _ th = _
            rw [upd_ne thF]; exact s18 _ _ hth17
      · rw [upd_ne LF]; exact s18 _ _ hL17
end
end BF
set_option Elab.async false
set_option linter.all false
set_option maxRecDepth 100000
set_option maxHeartbeats 0
/-! The end. -/
namespace BF
open PySem PySem.Spec PyProof.Rows L2
theorem facts {P : Program} {w : World} {K : PySem.W.Frag} {h : Heap} {mg : Str → Option Value} {f : Addr} (X : K.In h) (G : h.Ns mainGlobals mg) (hfa : mg ("law" : Str) = some (.ref f)) (c : He.SaysD fa fn K) (z : exK K = true) :
    ∃ fd : FuncData, (∀ (s : Shared) (v : Value), BindsTo s fd ⟨[v], []⟩ [("_law_script", v)]) ∧ ∀ base : Heap, K.In base → base.Ns mainGlobals mg → FnOk P w K mg base CX0 17 f fd ["_law_script"] (spLaw K) := by
  have T : TX K mg := tx_of X G c z
  obtain ⟨fd, F⟩ := c.def_ 66 (d := d_law) rfl
  have e := hfa.symm.trans T.g_law
  cases e
  have b := FunD.bindsA (ps := ["_law_script"]) F fun _ _ _ _ _ _ us hl => match us, hl with | [_], _ => rfl
  exact ⟨fd, fun s v => b s [v] rfl, fun base _ _ => ok_law T F⟩
end BF
open PySem PySem.W PySem.Calls PyProof.Rows
theorem PySem.Challenge.cw_bothfree_k64_whole_fewest_and_most_holds : PySem.Challenge.rw_bothfree_k64_whole_fewest_and_most.Holds := by
  w_on; o_law
  refine HandSHeadRun.head_any (r := OpenLaw.row PySem.Challenge.rw_bothfree_k64_whole_fewest_and_most) (q := view (OpenLaw.row PySem.Challenge.rw_bothfree_k64_whole_fewest_and_most).prog [81]) (H := BFH.hookB) (ob := BFH.ob) (M := 20000) (loose := BFH.nms) (d := HandSHeadRun.topDef (OpenLaw.row PySem.Challenge.rw_bothfree_k64_whole_fewest_and_most).prog 81) (kwd := []) BFH.ob_eq
    (by kernel_rfl) (fun s => by kernel_rfl) BFH.run (by kernel_rfl) (by kernel_rfl) (by kernel_rfl) (by rfl) (by first | assumption | decide +kernel) (by decide +kernel) ⟨rfl, rfl, rfl, rfl, rfl, by decide +kernel⟩ ?hw ?hc
  case hw => w_witness2
  case hc =>
    refine L2.walk_ofE (l := PySem.Challenge.rw_bothfree_k64_whole_fewest_and_most) (n := 63) (k := 17) (x := "_law_script") (CX := L2.CX0) rfl (by decide) (by kernel_rfl) ⟨rfl, by decide, by decide⟩ ?F (fun _ _ _ _ z => z)
    intro w mg fa h Y G hmg0
    obtain ⟨K, KX, c, z⟩ := Y
    have hmg : mg ("law" : PySem.Str) = some (.ref fa) := by
      have e : (HandSHeadRun.topDef (OpenLaw.row PySem.Challenge.rw_bothfree_k64_whole_fewest_and_most).prog 81).name = ("law" : PySem.Str) := by kernel_rfl
      rw [← e]
      exact hmg0
    obtain ⟨fd, hb, hF⟩ := BF.facts (P := (PySem.Challenge.rw_bothfree_k64_whole_fewest_and_most).prog) (w := w) KX G hmg c z
    exact ⟨K, fd, BF.spLaw K, KX, hb, fun H a ns hl _ hS => ⟨a, ns, rfl, hS, fun _ => rfl⟩, hF⟩
